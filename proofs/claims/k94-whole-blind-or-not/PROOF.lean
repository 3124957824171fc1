import PyProof.Rows.All
import Wide.All
import OpenK.AllK
import Wide.FinOn
import HandS.ForMost
import HandS.Evl
import HandS.TupAny
import HandS.Flow
import KE.KDictKeyed
import KE.SortData
import KE.KDictWalk
import HandS.More
import KE.KDictCopyH
import KE.KDictSum
import KE.KDictDisplayH
import KE.KEqNest
import KE.DataCmp
import HandS.Defaults
import HandS.Exc
import HandS.TryOnly
import PySem.Challenge.RW_renamehall_k94_whole_blind_or_not
import HandS.Rev
import HandS.WordsExc
import HandS.Walk
import HandS.Zip
import HandS.TupLe
set_option Elab.async false
set_option linter.all false
set_option maxRecDepth 100000
set_option maxHeartbeats 4000000
/-! DL1: data that tuples hold, told by NestedKey; dicts with such keys as exact objects -/
namespace R
open PySem L2 Evl

abbrev D := NestedKey
/-- the texts of this program: ascii, not long -/
def okS (x : Str) : Bool := x.cps.all (· < 128) && decide (x.length ≤ 100)
theorem okS_asc {x : Str} (h : okS x = true) : x.cps.all (· < 128) = true := (Bool.and_eq_true_iff.mp h).1
theorem okS_len {x : Str} (h : okS x = true) : x.length ≤ 100 := of_decide_eq_true (Bool.and_eq_true_iff.mp h).2

mutual
/-- the value is the datum: numbers, texts, None, tuples of them (so it stays for ever) -/
inductive Rp (H : Hp) : V → D → Prop
  | non : Rp H .non .none
  | int (i : Int) : Rp H (.int i) (.num i)
  | str (x : Str) : okS x = true → Rp H (.str x) (.text x)
  | tup {a : Addr} {xs : List V} {ds : List D} : H a = some (.tup xs) → RpAll H xs ds → Rp H (.ref a) (.tup ds)
inductive RpAll (H : Hp) : List V → List D → Prop
  | nil : RpAll H [] []
  | cons {v : V} {vs : List V} {d : D} {ds : List D} : Rp H v d → RpAll H vs ds → RpAll H (v :: vs) (d :: ds)
end
/-- tuples are kept -/
def Tk (H H' : Hp) : Prop := ∀ a xs, H a = some (.tup xs) → H' a = some (.tup xs)
theorem Tk.refl (H : Hp) : Tk H H := fun _ _ h => h
theorem Tk.trans {H H1 H2 : Hp} (a : Tk H H1) (b : Tk H1 H2) : Tk H H2 := fun x o h => b x o (a x o h)
theorem Tk.of {H H' : Hp} (e : Ex H H') : Tk H H' := fun a xs h => e a _ h
section
variable {H H' : Hp} {K : PySem.W.Frag}
mutual
theorem Rp.tk (k : Tk H H') : ∀ {v : V} {d : D}, Rp H v d → Rp H' v d
  | _, _, .non => .non
  | _, _, .int i => .int i
  | _, _, .str x h => .str x h
  | _, _, .tup h r => .tup (k _ _ h) (RpAll.tk k r)
theorem RpAll.tk (k : Tk H H') : ∀ {vs : List V} {ds : List D}, RpAll H vs ds → RpAll H' vs ds
  | _, _, .nil => .nil
  | _, _, .cons r t => .cons (Rp.tk k r) (RpAll.tk k t)
end
theorem Rp.ex {v : V} {d : D} (e : Ex H H') (r : Rp H v d) : Rp H' v d := r.tk (Tk.of e)
theorem RpAll.ex {v : List V} {d : List D} (e : Ex H H') (r : RpAll H v d) : RpAll H' v d := r.tk (Tk.of e)
theorem RpAll.length : ∀ {vs : List V} {ds : List D}, RpAll H vs ds → vs.length = ds.length
  | _, _, .nil => rfl
  | _, _, .cons _ t => by rw [List.length_cons, List.length_cons, RpAll.length t]
theorem RpAll.get : ∀ {vs : List V} {ds : List D} {i : Nat} {v : V}, RpAll H vs ds → vs[i]? = some v → ∃ d, ds[i]? = some d ∧ Rp H v d
  | _, _, _, _, .nil, h => by simp at h
  | _, _, 0, _, .cons r _, h => by simp at h; subst h; exact ⟨_, rfl, r⟩
  | _, _, i + 1, _, .cons _ t, h => by simp at h; obtain ⟨d, h1, h2⟩ := RpAll.get t h; exact ⟨d, by simpa using h1, h2⟩
theorem RpAll.getD : ∀ {vs : List V} {ds : List D} {i : Nat} {d : D}, RpAll H vs ds → ds[i]? = some d → ∃ v, vs[i]? = some v ∧ Rp H v d
  | _, _, _, _, .nil, h => by simp at h
  | _, _, 0, _, .cons r _, h => by simp at h; subst h; exact ⟨_, rfl, r⟩
  | _, _, i + 1, _, .cons _ t, h => by simp at h; obtain ⟨d, h1, h2⟩ := RpAll.getD t h; exact ⟨d, by simpa using h1, h2⟩
theorem RpAll.append : ∀ {vs ws : List V} {ds es : List D}, RpAll H vs ds → RpAll H ws es → RpAll H (vs ++ ws) (ds ++ es)
  | _, _, _, _, .nil, s => s
  | _, _, _, _, .cons r t, s => .cons r (RpAll.append t s)
theorem RpAll.one {v : V} {d : D} (r : Rp H v d) : RpAll H [v] [d] := .cons r .nil
theorem RpAll.take : ∀ {vs : List V} {ds : List D} (n : Nat), RpAll H vs ds → RpAll H (vs.take n) (ds.take n)
  | _, _, 0, _ => .nil
  | _, _, _ + 1, .nil => .nil
  | _, _, n + 1, .cons r t => .cons r (RpAll.take n t)
theorem RpAll.drop : ∀ {vs : List V} {ds : List D} (n : Nat), RpAll H vs ds → RpAll H (vs.drop n) (ds.drop n)
  | _, _, 0, r => r
  | _, _, _ + 1, .nil => .nil
  | _, _, n + 1, .cons _ t => RpAll.drop n t
theorem RpAll.eraseIdx : ∀ {vs : List V} {ds : List D} (n : Nat), RpAll H vs ds → RpAll H (vs.eraseIdx n) (ds.eraseIdx n)
  | _, _, _, .nil => .nil
  | _, _, 0, .cons _ t => t
  | _, _, n + 1, .cons r t => .cons r (RpAll.eraseIdx n t)
theorem RpAll.reverse : ∀ {vs : List V} {ds : List D}, RpAll H vs ds → RpAll H vs.reverse ds.reverse
  | _, _, .nil => .nil
  | _, _, .cons r t => by rw [List.reverse_cons, List.reverse_cons]; exact (RpAll.reverse t).append (.one r)
mutual
theorem Rp.inj : ∀ {v : V} {d e : D}, Rp H v d → Rp H v e → d = e
  | _, _, _, .non, h => by cases h; rfl
  | _, _, _, .int i, h => by cases h; rfl
  | _, _, _, .str x _, h => by cases h; rfl
  | _, _, _, .tup h r, q => by
    cases q with
    | tup h' r' =>
      rw [h] at h'
      cases h'
      rw [RpAll.inj r r']
theorem RpAll.inj : ∀ {v : List V} {d e : List D}, RpAll H v d → RpAll H v e → d = e
  | _, _, _, .nil, h => by cases h; rfl
  | _, _, _, .cons r t, h => by
    cases h with
    | cons r' t' => rw [Rp.inj r r', RpAll.inj t t']
end
mutual
theorem Rp.dp : ∀ {v : V} {d : D}, Rp H v d → Dp K H v d.data
  | _, _, .non => by rw [NestedKey.data]; exact .non
  | _, _, .int i => by rw [NestedKey.data]; exact .int i
  | _, _, .str x _ => by rw [NestedKey.data]; exact .str x
  | _, _, .tup h r => by rw [NestedKey.data]; exact .tup (.inl (.inl h)) (RpAll.dp r)
theorem RpAll.dp : ∀ {v : List V} {d : List D}, RpAll H v d → DpAll K H v (NestedKey.datas d)
  | _, _, .nil => by rw [NestedKey.datas]; exact .nil
  | _, _, .cons r t => by rw [NestedKey.datas]; exact .cons (Rp.dp r) (RpAll.dp t)
end
mutual
theorem Rp.lays : ∀ {v : V} {d : D}, Rp H v d → d.data.canLay0 = true
  | _, _, .non => by simp [NestedKey.data, PyData.canLay0]
  | _, _, .int i => by simp [NestedKey.data, PyData.canLay0]
  | _, _, .str x h => by
    have h1 := okS_asc h
    simp only [NestedKey.data, PyData.canLay0, PyData.strOk]
    rw [Array.all_eq_true] at h1 ⊢
    intro i hi
    have := h1 i hi
    simp at this ⊢
    omega
  | _, _, .tup h r => by
    simp only [NestedKey.data, PyData.canLay0]
    exact RpAll.lays r
theorem RpAll.lays : ∀ {v : List V} {d : List D}, RpAll H v d → PyData.canLayAll0 (NestedKey.datas d) = true
  | _, _, .nil => by simp [NestedKey.datas, PyData.canLayAll0]
  | _, _, .cons r t => by simp [NestedKey.datas, PyData.canLayAll0, Rp.lays r, RpAll.lays t]
end
end
mutual
theorem depth_data : ∀ d : D, d.data.depth = d.depth
  | .none => by simp [NestedKey.data, NestedKey.depth, PyData.depth]
  | .num _ => by simp [NestedKey.data, NestedKey.depth, PyData.depth]
  | .text _ => by simp [NestedKey.data, NestedKey.depth, PyData.depth]
  | .tup ds => by simp only [NestedKey.data, NestedKey.depth, PyData.depth]; rw [depth_datas ds]
theorem depth_datas : ∀ d : List D, PyData.depthAll (NestedKey.datas d) = NestedKey.depthAll d
  | [] => by simp [NestedKey.datas, NestedKey.depthAll, PyData.depthAll]
  | d :: ds => by simp only [NestedKey.datas, NestedKey.depthAll, PyData.depthAll]; rw [depth_data d, depth_datas ds]
end
mutual
theorem eqv_data : ∀ a b : D, PyData.eqv a.data b.data = NestedKey.beq a b
  | .none, .none => by simp [NestedKey.data, NestedKey.beq, PyData.eqv]
  | .num a, .num b => by simp [NestedKey.data, NestedKey.beq, PyData.eqv]; rfl
  | .text a, .text b => by simp [NestedKey.data, NestedKey.beq, PyData.eqv]; rfl
  | .tup a, .tup b => by simp only [NestedKey.data, NestedKey.beq, PyData.eqv]; exact eqv_datas a b
  | .none, .num _ | .none, .text _ | .none, .tup _ => by simp [NestedKey.data, NestedKey.beq, PyData.eqv]
  | .num _, .none | .num _, .text _ | .num _, .tup _ => by simp [NestedKey.data, NestedKey.beq, PyData.eqv]
  | .text _, .none | .text _, .num _ | .text _, .tup _ => by simp [NestedKey.data, NestedKey.beq, PyData.eqv]
  | .tup _, .none | .tup _, .num _ | .tup _, .text _ => by simp [NestedKey.data, NestedKey.beq, PyData.eqv]
theorem eqv_datas : ∀ a b : List D, PyData.eqvAll (NestedKey.datas a) (NestedKey.datas b) = NestedKey.beqAll a b
  | [], [] => by simp [NestedKey.datas, NestedKey.beqAll, PyData.eqvAll]
  | a :: as, b :: bs => by simp only [NestedKey.datas, NestedKey.beqAll, PyData.eqvAll]; rw [eqv_data a b, eqv_datas as bs]
  | [], _ :: _ => by simp [NestedKey.datas, NestedKey.beqAll, PyData.eqvAll]
  | _ :: _, [] => by simp [NestedKey.datas, NestedKey.beqAll, PyData.eqvAll]
end
theorem eqv_dec (a b : D) : PyData.eqv a.data b.data = decide (a = b) := by rw [eqv_data, NestedKey.decide_eq]
theorem beqAll_dec (a b : List D) : NestedKey.beqAll a b = decide (a = b) := by
  cases h : NestedKey.beqAll a b with
  | true => exact (decide_eq_true (NestedKey.eq_of_beqAll a b h)).symm
  | false => exact (decide_eq_false fun e => by rw [e, NestedKey.beqAll_self] at h; cases h).symm
section
variable {P : Program} {w : World} {H : Hp} {h : Heap}
mutual
theorem Rp.is (ok : HOk P w H h) : ∀ {v : V} {d : D} {u : Value}, Rp H v d → RelV v u → NestedIs h d u
  | _, _, _, .non, r => by cases r; exact .none
  | _, _, _, .int i, r => by obtain ⟨t, rfl⟩ := r; exact .int i t
  | _, _, _, .str x _, r => by obtain ⟨t, rfl⟩ := r; exact .text x t
  | _, _, _, .tup e t, r => by
    cases r
    obtain ⟨_, its, rv, o, h1, h2, n, h3⟩ := ok _ _ e
    exact .tup h1 h2 h3 (by simpa using RpAll.is ok t rv)
theorem RpAll.is (ok : HOk P w H h) : ∀ {v : List V} {d : List D} {u : List Value}, RpAll H v d → Vals v u → NestedAll h d u
  | _, _, _, .nil, r => by cases r; exact .nil
  | _, _, _, .cons a t, r => by
    cases r with
    | cons r1 r2 => exact .cons (Rp.is ok a r1) (RpAll.is ok t r2)
end
end
end R
/-! DL2: what readings give, told by data -/
namespace R
open PySem L2 Evl

/-! ### lists of data -/
def LstD (H : Hp) (a : Addr) (ds : List D) : Prop := ∃ xs, H a = some (.lst xs) ∧ RpAll H xs ds
/-- all but the object at a is as it was -/
def ExB (a : Addr) (H H' : Hp) : Prop := (∀ b o, b ≠ a → H b = some o → H' b = some o) ∧ Tk H H'
section
variable {H H' H0 : Hp} {a : Addr}
theorem LstD.ex {ds : List D} (e : Ex H H') (h : LstD H a ds) : LstD H' a ds := let ⟨xs, h1, h2⟩ := h; ⟨xs, e _ _ h1, h2.ex e⟩
theorem LstD.exb {ds : List D} {b : Addr} (e : ExB b H H') (hb : a ≠ b) (h : LstD H a ds) : LstD H' a ds := let ⟨xs, h1, h2⟩ := h; ⟨xs, e.1 _ _ hb h1, h2.tk e.2⟩
theorem LstD.inj {ds es : List D} (h : LstD H a ds) (h' : LstD H a es) : ds = es := by
  obtain ⟨xs, h1, h2⟩ := h
  obtain ⟨ys, k1, k2⟩ := h'
  rw [h1] at k1
  cases k1
  exact h2.inj k2
theorem LstD.some {ds : List D} (h : LstD H a ds) : ∃ o, H a = some o := let ⟨_, h1, _⟩ := h; ⟨_, h1⟩
theorem ExB.refl (a : Addr) (H : Hp) : ExB a H H := ⟨fun _ _ _ h => h, Tk.refl H⟩
theorem ExB.of (e : Ex H H') : ExB a H H' := ⟨fun b o _ h => e b o h, Tk.of e⟩
theorem ExB.trans {H1 : Hp} (e : ExB a H H1) (e' : ExB a H1 H') : ExB a H H' := ⟨fun b o hb h => e'.1 b o hb (e.1 b o hb h), e.2.trans e'.2⟩
theorem ExB.upd {o : HO} (h : ∀ xs, H a ≠ some (.tup xs)) : ExB a H (upd H a o) :=
  ⟨fun b u hb e => by rw [upd_ne hb]; exact e, fun b xs e => by
    have hb : b ≠ a := fun q => h xs (q ▸ e)
    rw [upd_ne hb]
    exact e⟩
/-- what is anchored ahead of a's making stays -/
theorem ExB.anch (e : Ex H0 H) (h0 : H0 a = none) (x : ExB a H H') : Ex H0 H' := fun b o h => x.1 b o (ne_of_none h h0) (e b o h)
theorem Ex.none {p : Addr} (e : Ex H H') (h : H' p = none) : H p = none := fresh_back e h
end

/-! ### what a reading gives -/
def EvP (te : TE) (σ : L2.St) (H : Hp) (P : V → Hp → Prop) : Prop := ∀ H1, Ex H H1 → ∀ Q : VK, (∀ v H2, Ex H1 H2 → P v H2 → Q v H2) → te σ H1 Q
def IsD (d : D) : V → Hp → Prop := fun v H => Rp H v d
/-- a list of data, some one | a new one -/
def IsL (ds : List D) : V → Hp → Prop := fun v H => ∃ p, v = .ref p ∧ LstD H p ds
def NewL (H0 : Hp) (ds : List D) : V → Hp → Prop := fun v H => ∃ p, v = .ref p ∧ H0 p = none ∧ LstD H p ds
abbrev EvD (te : TE) (σ : L2.St) (H : Hp) (d : D) : Prop := EvP te σ H (IsD d)
abbrev EvLs (te : TE) (σ : L2.St) (H : Hp) (ds : List D) : Prop := EvP te σ H (IsL ds)
abbrev EvN (te : TE) (σ : L2.St) (H : Hp) (ds : List D) : Prop := EvP te σ H (NewL H ds)
def EvDs (ta : TA) (σ : L2.St) (H : Hp) (ds : List D) : Prop := ∀ H1, Ex H H1 → ∀ Q : List V → Hp → Prop, (∀ vs H2, Ex H1 H2 → RpAll H2 vs ds → Q vs H2) → ta σ H1 Q
def Up (P : V → Hp → Prop) : Prop := ∀ v H H', Ex H H' → P v H → P v H'
theorem up_d (d : D) : Up (IsD d) := fun _ _ _ e h => Rp.ex e h
theorem up_l (ds : List D) : Up (IsL ds) := fun _ _ _ e ⟨p, h1, h2⟩ => ⟨p, h1, h2.ex e⟩
theorem up_n (H0 : Hp) (ds : List D) : Up (NewL H0 ds) := fun _ _ _ e ⟨p, h1, h0, h2⟩ => ⟨p, h1, h0, h2.ex e⟩
theorem up_v (x : V) : Up (fun v _ => v = x) := fun _ _ _ _ h => h
section
variable {K : PySem.W.Frag} {σ : L2.St} {H H' : Hp} {ta tb te tx : TE} {t u : TT} {x y z v : V} {r : R2} {P P' P2 S : V → Hp → Prop} {d e : D} {ds es : List D}
theorem EvP.mono (ex : Ex H H') (h : EvP te σ H P) : EvP te σ H' P := fun H1 a Q q => h H1 (ex.trans a) Q q
theorem EvP.imp (h : EvP te σ H P) (k : ∀ v H2, Ex H H2 → P v H2 → P' v H2) : EvP te σ H P' := fun H1 e1 Q q => h H1 e1 Q fun v H2 e2 p => q v H2 e2 (k v H2 (e1.trans e2) p)
theorem EvDs.mono {ta : TA} (ex : Ex H H') (h : EvDs ta σ H ds) : EvDs ta σ H' ds := fun H1 a Q q => h H1 (ex.trans a) Q q
theorem EvN.any (h : EvN te σ H ds) : EvLs te σ H ds := h.imp fun _ _ _ ⟨p, h1, _, h2⟩ => ⟨p, h1, h2⟩
theorem evp_ev (h : Ev te σ H v) (k : ∀ H1, Ex H H1 → P v H1) : EvP te σ H P := fun H1 e1 Q q => h H1 e1 Q fun H2 e2 => q v H2 e2 (k H2 (e1.trans e2))
theorem ev_of (h : EvP te σ H (fun w _ => w = v)) : Ev te σ H v := fun H1 e1 Q q => h H1 e1 Q fun w H2 e2 p => by rw [p]; exact q H2 e2
theorem evd_ev (h : Ev te σ H v) (r : Rp H v d) : EvD te σ H d := evp_ev h fun _ e1 => r.ex e1
theorem evl_ev {a : Addr} (h : Ev te σ H (.ref a)) (r : LstD H a ds) : EvLs te σ H ds := evp_ev h fun _ e1 => ⟨a, rfl, r.ex e1⟩
theorem evd_var {i : Nat} (h : σ[i]? = some (some v)) (r : Rp H v d) : EvD (tVar i) σ H d := evd_ev (ev_var h) r
theorem evl_var {i : Nat} {a : Addr} (h : σ[i]? = some (some (.ref a))) (r : LstD H a ds) : EvLs (tVar i) σ H ds := evl_ev (ev_var h) r
theorem evd_int {i : Int} : EvD (tC (.int i)) σ H (.num i) := evd_ev ev_c (.int i)
theorem evd_str {s : Str} (h : okS s = true) : EvD (tC (.str s)) σ H (.text s) := evd_ev ev_c (.str s h)
theorem evd_non : EvD (tC .non) σ H .none := evd_ev ev_c .non
theorem ev_num {i : Int} (h : EvD te σ H (.num i)) : Ev te σ H (.int i) := ev_of (h.imp fun v _ _ r => by cases (show Rp _ _ _ from r); rfl)
theorem ev_txt {s : Str} (h : EvD te σ H (.text s)) : Ev te σ H (.str s) := ev_of (h.imp fun v _ _ r => by cases (show Rp _ _ _ from r); rfl)
theorem evd_num {i : Int} (h : Ev te σ H (.int i)) : EvD te σ H (.num i) := evd_ev h (.int i)
theorem evd_txt {s : Str} (h : Ev te σ H (.str s)) (k : okS s = true) : EvD te σ H (.text s) := evd_ev h (.str s k)
theorem evd_is (h : EvD te σ H d) (q : d = e) : EvD te σ H e := q ▸ h
theorem evl_is (h : EvLs te σ H ds) (q : ds = es) : EvLs te σ H es := q ▸ h
theorem evn_is (h : EvN te σ H ds) (q : ds = es) : EvN te σ H es := q ▸ h

/-- two operands -/
theorem evp_op (ha : EvP ta σ H P) (hP : Up P) (hb : EvP tb σ H P2) (hr : ∀ x y H1, Ex H H1 → P x H1 → P2 y H1 → ∀ Q : VK, (∀ z H2, Ex H1 H2 → S z H2 → Q z H2) → r x y H1 Q) : EvP (tOp r ta tb) σ H S := fun H1 e1 Q q =>
  ha H1 e1 _ fun x H2 e2 p => hb H2 (e1.trans e2) _ fun y H3 e3 p' => hr x y H3 ((e1.trans e2).trans e3) (hP x _ _ e3 p) p' Q fun z H4 e4 s => q z H4 ((e2.trans e3).trans e4) s
/-- t[i] -/
theorem evd_ix {i : Int} (ha : EvD ta σ H (.tup ds)) (hb : Ev tb σ H (.int i)) (hd : atI ds i = some d) : EvD (tOp (rIxT K) ta tb) σ H d :=
  evp_op ha (up_d _) (evp_ev (P := fun w _ => w = V.int i) hb fun _ _ => rfl) fun x y H1 _ p p' Q q => by
    subst p'
    cases (show Rp _ _ _ from p) with
    | tup h1 h2 =>
      rename_i a xs
      unfold atI at hd
      rw [← h2.length] at hd
      cases hj : ixN xs.length i with
      | none => rw [hj] at hd; cases hd
      | some j =>
        rw [hj] at hd
        obtain ⟨v, hv, rv⟩ := h2.getD (i := j) (d := d) hd
        exact ⟨a, xs, i, v, rfl, rfl, SqT.of h1, by unfold atI; rw [hj]; exact hv, q v H1 (Ex.refl _) rv⟩
/-- xs[i] -/
theorem evd_ixL {i : Int} (ha : EvLs ta σ H ds) (hb : Ev tb σ H (.int i)) (hd : atI ds i = some d) : EvD (tOp (rIxL K) ta tb) σ H d :=
  evp_op ha (up_l _) (evp_ev (P := fun w _ => w = V.int i) hb fun _ _ => rfl) fun x y H1 _ p p' Q q => by
    subst p'
    obtain ⟨a, rfl, xs, h1, h2⟩ := p
    unfold atI at hd
    rw [← h2.length] at hd
    cases hj : ixN xs.length i with
    | none => rw [hj] at hd; cases hd
    | some j =>
      rw [hj] at hd
      obtain ⟨v, hv, rv⟩ := h2.getD (i := j) (d := d) hd
      exact ⟨a, xs, i, v, rfl, rfl, SqL.of h1, by unfold atI; rw [hj]; exact hv, q v H1 (Ex.refl _) rv⟩
/-- a slice -/
def cut {α : Type} (xs : List α) (lo hi : Option Int) : List α := (xs.drop (HT.sIx xs.length 0 lo)).take (HT.sIx xs.length xs.length hi - HT.sIx xs.length 0 lo)
theorem rp_cut {xs : List V} (h : RpAll H xs ds) (lo hi : Option Int) : RpAll H (cutV xs lo hi) (cut ds lo hi) := by
  unfold cutV cut
  rw [← h.length]
  exact (h.drop _).take _
theorem cut_all {α : Type} {xs : List α} {lo hi : Option Int} (h : HT.sIx xs.length 0 lo = 0 ∧ HT.sIx xs.length xs.length hi = xs.length) : cut xs lo hi = xs := by
  unfold cut
  rw [h.1, h.2, List.drop_zero, Nat.sub_zero, List.take_length]
theorem evd_cut {tl th : TO} {lo hi : Option Int} (ha : EvD ta σ H (.tup ds)) (h1 : EvO tl σ H lo) (h2 : EvO th σ H hi) : EvD (tSl (rSlA K) ta tl th) σ H (.tup (cut ds lo hi)) := fun H1 e1 Q q =>
  ha H1 e1 _ fun x H2 e2 p => h1 H2 (e1.trans e2) _ fun H3 e3 => h2 H3 ((e1.trans e2).trans e3) _ fun H4 e4 => by
    cases (show Rp _ _ _ from p) with
    | tup k1 k2 =>
      rename_i a xs
      have k1' := (e3.trans e4) _ _ k1
      have k2' := k2.ex (e3.trans e4)
      refine ⟨a, xs, rfl, SqT.of k1', fun hw => ?_, fun _ p hp => ?_⟩
      · rw [k2'.length] at hw
        refine q _ H4 ((e2.trans e3).trans e4) ?_
        rw [cut_all hw]
        exact .tup k1' k2'
      · exact q _ _ (((e2.trans e3).trans e4).trans (Ex.new hp)) (.tup upd_same ((rp_cut k2' lo hi).ex (Ex.new hp)))
theorem evn_cut {tl th : TO} {lo hi : Option Int} (ha : EvLs ta σ H ds) (h1 : EvO tl σ H lo) (h2 : EvO th σ H hi) : EvN (tSl (rSlL K) ta tl th) σ H (cut ds lo hi) := fun H1 e1 Q q =>
  ha H1 e1 _ fun x H2 e2 ⟨a, ex, xs, k1, k2⟩ => h1 H2 (e1.trans e2) _ fun H3 e3 => h2 H3 ((e1.trans e2).trans e3) _ fun H4 e4 => by
    subst ex
    refine ⟨a, xs, rfl, SqL.of ((e3.trans e4) _ _ k1), fun p hp => ?_⟩
    have e0 := ((e2.trans e3).trans e4).trans (Ex.new (o := .lst (cutV xs lo hi)) hp)
    exact q _ _ e0 ⟨p, rfl, fresh_back (((e1.trans e2).trans e3).trans e4) hp, _, upd_same, (rp_cut (k2.ex (e3.trans e4)) lo hi).ex (Ex.new hp)⟩
/-- t + u -/
theorem evd_cat (ha : EvD ta σ H (.tup ds)) (hb : EvD tb σ H (.tup es)) (hl : ds.length + es.length ≤ 100000) : EvD (tOp (rCatA K) ta tb) σ H (.tup (ds ++ es)) :=
  evp_op ha (up_d _) hb fun x y H1 _ p p' Q q => by
    cases (show Rp _ _ _ from p) with
    | tup h1 h2 =>
      rename_i a xs
      cases (show Rp _ _ _ from p') with
      | tup k1 k2 =>
        rename_i b ys
        refine ⟨a, b, xs, ys, rfl, rfl, SqT.of h1, SqT.of k1, sz_of (by rw [h2.length, k2.length]; exact hl), fun hx => ?_, fun hx hy => ?_, fun hx hy p hp => ?_⟩
        · subst hx
          cases h2
          exact q _ H1 (Ex.refl _) p'
        · subst hy
          cases k2
          rw [List.append_nil] at q
          exact q _ H1 (Ex.refl _) p
        · exact q _ _ (Ex.new hp) (.tup upd_same ((h2.append k2).ex (Ex.new hp)))
theorem evn_cat (ha : EvLs ta σ H ds) (hb : EvLs tb σ H es) (hl : ds.length + es.length ≤ 100000) : EvN (tOp rCat ta tb) σ H (ds ++ es) := fun H1 e1 Q q =>
  ha H1 e1 _ fun x H2 e2 ⟨a, ex, xs, k1, k2⟩ => hb H2 (e1.trans e2) _ fun y H3 e3 ⟨b, ey, ys, j1, j2⟩ => by
    subst ex
    subst ey
    have k2' := k2.ex e3
    refine ⟨a, b, xs, ys, rfl, rfl, e3 _ _ k1, j1, sz_of (by rw [k2.length, j2.length]; exact hl), fun p hp => ?_⟩
    exact q _ _ ((e2.trans e3).trans (Ex.new hp)) ⟨p, rfl, fresh_back ((e1.trans e2).trans e3) hp, _, upd_same, (k2'.append j2).ex (Ex.new hp)⟩
theorem eds_nil : EvDs tNil σ H [] := fun H1 _ Q q => q [] H1 (Ex.refl _) .nil
theorem eds_cons {tr : TA} (h : EvD ta σ H d) (hr : EvDs tr σ H ds) : EvDs (tCons ta tr) σ H (d :: ds) := fun H1 e1 Q q =>
  h H1 e1 _ fun v H2 e2 p => hr H2 (e1.trans e2) _ fun vs H3 e3 p' => q (v :: vs) H3 (e2.trans e3) (.cons (Rp.ex e3 p) p')
theorem evd_tup {ta : TA} (h : EvDs ta σ H ds) (hl : ds.length ≤ 100000 := by decide) : EvD (tTup ta) σ H (.tup ds) := fun H1 e1 Q q =>
  h H1 e1 _ fun vs H2 e2 p => ⟨sz_of (by rw [p.length]; exact hl), fun a ha => q _ _ (e2.trans (Ex.new ha)) (.tup upd_same (p.ex (Ex.new ha)))⟩
theorem evn_lst {ta : TA} (h : EvDs ta σ H ds) (hl : ds.length ≤ 100000 := by decide) : EvN (tLst ta) σ H ds := fun H1 e1 Q q =>
  h H1 e1 _ fun vs H2 e2 p => ⟨sz_of (by rw [p.length]; exact hl), fun a ha => q _ _ (e2.trans (Ex.new ha)) ⟨a, rfl, fresh_back (e1.trans e2) ha, vs, upd_same, p.ex (Ex.new ha)⟩⟩
/-- ==, != of data -/
theorem Rp.shaped {v : V} (h : Rp H v d) (hd : d.depth ≤ 8) : SeqAt.shaped d.data = true := by
  unfold SeqAt.shaped
  rw [h.lays, depth_data]
  simp; omega
theorem ev_eqD (ha : EvD ta σ H d) (hb : EvD tb σ H e) (hd : d.depth ≤ 8) (he : e.depth ≤ 8) : Ev (tOp (rEqD K) ta tb) σ H (.bl (decide (d = e))) :=
  ev_of (evp_op ha (up_d _) hb fun x y H1 _ p p' Q q => ⟨d.data, e.data, Rp.dp p, Rp.dp p', Rp.shaped p hd, Rp.shaped p' he, by rw [eqv_dec]; exact q _ H1 (Ex.refl _) rfl⟩)
theorem ev_neD (ha : EvD ta σ H d) (hb : EvD tb σ H e) (hd : d.depth ≤ 8) (he : e.depth ≤ 8) : Ev (tOp (rNeD K) ta tb) σ H (.bl (!decide (d = e))) :=
  ev_of (evp_op ha (up_d _) hb fun x y H1 _ p p' Q q => ⟨d.data, e.data, Rp.dp p, Rp.dp p', Rp.shaped p hd, Rp.shaped p' he, by rw [eqv_dec]; exact q _ H1 (Ex.refl _) rfl⟩)
theorem LstD.dp {a : Addr} (h : LstD H a ds) : Dp K H (.ref a) (.list (NestedKey.datas ds)) := let ⟨_, h1, h2⟩ := h; .lst (.inl (.inl h1)) h2.dp
theorem LstD.shaped {a : Addr} (h : LstD H a ds) (hd : NestedKey.depthAll ds ≤ 8) : SeqAt.shaped (.list (NestedKey.datas ds)) = true := by
  obtain ⟨xs, h1, h2⟩ := h
  unfold SeqAt.shaped
  have := depth_datas ds
  simp only [PyData.canLay0, PyData.depth, h2.lays, this]
  simp; omega
theorem eqv_lists (as bs : List D) : PyData.eqv (.list (NestedKey.datas as)) (.list (NestedKey.datas bs)) = decide (as = bs) := by
  simp only [PyData.eqv]
  rw [eqv_datas, beqAll_dec]
theorem ev_neL (ha : EvLs ta σ H ds) (hb : EvLs tb σ H es) (hd : NestedKey.depthAll ds ≤ 8) (he : NestedKey.depthAll es ≤ 8) : Ev (tOp (rNeD K) ta tb) σ H (.bl (!decide (ds = es))) :=
  ev_of (evp_op ha (up_l _) hb fun x y H1 _ ⟨a, ex, p⟩ ⟨b, ey, p'⟩ Q q => by
    subst ex
    subst ey
    exact ⟨_, _, p.dp, p'.dp, p.shaped hd, p'.shaped he, by rw [eqv_lists]; exact q _ H1 (Ex.refl _) rfl⟩)
theorem ev_ne_nil (ha : EvLs ta σ H ds) (hd : NestedKey.depthAll ds ≤ 8) : Ev (tOp (rNeD K) ta (tLst tNil)) σ H (.bl (!decide (ds = []))) :=
  ev_neL ha (EvN.any (evn_lst eds_nil)) hd (by simp [NestedKey.depthAll])
/-- is None -/
theorem Rp.none_iff {v : V} (h : Rp H v d) : decide (v = .non) = decide (d = .none) := by
  cases h <;> simp
theorem ev_isN (ha : EvD ta σ H d) : Ev (tIsN ta) σ H (.bl (decide (d = .none))) := fun H1 e1 Q q => ha H1 e1 _ fun v H2 e2 p => by
  rw [Rp.none_iff p]
  exact q H2 e2
theorem ev_notN (ha : EvD ta σ H d) : Ev (tNotN ta) σ H (.bl (!decide (d = .none))) := fun H1 e1 Q q => ha H1 e1 _ fun v H2 e2 p => by
  rw [Rp.none_iff p]
  exact q H2 e2
theorem ev_isNv (ha : Ev ta σ H x) : Ev (tIsN ta) σ H (.bl (decide (x = .non))) := fun H1 e1 Q q => ha H1 e1 _ fun H2 e2 => q H2 e2
/-- len -/
theorem ev_lenL (ha : EvLs ta σ H ds) : Ev (tCB (rLenS K) (tCons ta tNil)) σ H (.int (ds.length : Int)) := fun H1 e1 Q q => ha H1 e1 _ fun v H2 e2 ⟨p, ev, xs, h1, h2⟩ => by
  subst ev
  refine ⟨p, xs, rfl, .inl (SqL.of h1), ?_⟩
  rw [h2.length]
  exact q H2 e2
theorem ev_lenT (ha : EvD ta σ H (.tup ds)) : Ev (tCB (rLenS K) (tCons ta tNil)) σ H (.int (ds.length : Int)) := fun H1 e1 Q q => ha H1 e1 _ fun v H2 e2 p => by
  cases (show Rp _ _ _ from p) with
  | tup h1 h2 =>
    rename_i a xs
    refine ⟨a, xs, rfl, .inr (SqT.of h1), ?_⟩
    rw [h2.length]
    exact q H2 e2
/-- texts -/
def rCase (f : Str → Str) : V → List V → Hp → VK → Prop := fun x xs H Q => ∃ a, x = .str a ∧ xs = [] ∧ a.length ≤ 5592405 ∧ Q (.str (f a)) H
theorem ev_case {f : Str → Str} {s : Str} (ha : Ev ta σ H (.str s)) (h : s.length ≤ 100) : Ev (tM0 (rCase f) ta) σ H (.str (f s)) := fun H1 e1 Q q => ha H1 e1 _ fun H2 e2 => ⟨⟨s, rfl⟩, s, rfl, rfl, by omega, q H2 e2⟩
def rAddS : R2 := fun x y H Q => ∃ i j, x = .str i ∧ y = .str j ∧ i.length + j.length ≤ sizeLine ∧ Q (.str (i ++ j)) H
theorem ev_addS {a b : Str} (ha : Ev ta σ H (.str a)) (hb : Ev tb σ H (.str b)) (h : a.length + b.length ≤ 100000) : Ev (tOp rAddS ta tb) σ H (.str (a ++ b)) :=
  ev_op ha hb fun H1 _ Q q => ⟨a, b, rfl, rfl, sz_of h, q H1 (Ex.refl _)⟩

/-! ### arguments of calls -/
inductive AS where
  | v (x : V) | d (d : D) | l (ds : List D)
def AS.ok (H : Hp) : AS → V → Prop
  | .v x, v => v = x
  | .d d, v => Rp H v d
  | .l ds, v => ∃ p, v = .ref p ∧ LstD H p ds
theorem AS.ex {a : AS} (e : Ex H H') (h : a.ok H v) : a.ok H' v := by
  cases a with
  | v x => exact h
  | d d => exact Rp.ex e h
  | l ds => obtain ⟨p, h1, h2⟩ := h; exact ⟨p, h1, h2.ex e⟩
inductive AsOk (H : Hp) : List AS → List V → Prop
  | nil : AsOk H [] []
  | cons {a : AS} {as : List AS} {v : V} {vs : List V} : a.ok H v → AsOk H as vs → AsOk H (a :: as) (v :: vs)
def EvAs (ta : TA) (σ : L2.St) (H : Hp) (as : List AS) : Prop := ∀ H1, Ex H H1 → ∀ Q : List V → Hp → Prop, (∀ vs H2, Ex H1 H2 → AsOk H2 as vs → Q vs H2) → ta σ H1 Q
theorem eas_nil : EvAs tNil σ H [] := fun H1 _ Q q => q [] H1 (Ex.refl _) .nil
theorem eas_v {tr : TA} {as : List AS} (h : Ev ta σ H v) (hr : EvAs tr σ H as) : EvAs (tCons ta tr) σ H (.v v :: as) := fun H1 e1 Q q =>
  h H1 e1 _ fun H2 e2 => hr H2 (e1.trans e2) _ fun vs H3 e3 p' => q (v :: vs) H3 (e2.trans e3) (.cons rfl p')
theorem eas_d {tr : TA} {as : List AS} (h : EvD ta σ H d) (hr : EvAs tr σ H as) : EvAs (tCons ta tr) σ H (.d d :: as) := fun H1 e1 Q q =>
  h H1 e1 _ fun v H2 e2 p => hr H2 (e1.trans e2) _ fun vs H3 e3 p' => q (v :: vs) H3 (e2.trans e3) (.cons (Rp.ex e3 p) p')
theorem eas_l {tr : TA} {as : List AS} (h : EvLs ta σ H ds) (hr : EvAs tr σ H as) : EvAs (tCons ta tr) σ H (.l ds :: as) := fun H1 e1 Q q =>
  h H1 e1 _ fun v H2 e2 ⟨p, h1, h2⟩ => hr H2 (e1.trans e2) _ fun vs H3 e3 p' => q (v :: vs) H3 (e2.trans e3) (.cons ⟨p, h1, h2.ex e3⟩ p')
theorem EvAs.mono {ta : TA} {as : List AS} (ex : Ex H H') (h : EvAs ta σ H as) : EvAs ta σ H' as := fun H1 a Q q => h H1 (ex.trans a) Q q
/-- a call of a def by its promise -/
theorem evp_call {sp : Sp} {E : XK} {ta : TA} {as : List AS} (h : EvAs ta σ H as) (hs : ∀ H1 vs, Ex H H1 → AsOk H1 as vs → ∀ Q : VK, (∀ v H2, Ex H1 H2 → P v H2 → Q v H2) → sp vs H1 Q E) : EvP (tCall sp [] E ta) σ H P := fun H1 e1 Q q =>
  h H1 e1 _ fun vs H2 e2 p => by
    show sp (vs ++ []) H2 Q E
    rw [List.append_nil]
    exact hs H2 vs (e1.trans e2) p Q fun v H3 e3 => q v H3 (e2.trans e3)
theorem evp_meth {sp : Sp} {E : XK} {ta : TA} {as : List AS} {C o dx : Addr} {fs : List (Str × V)} {m : Str} {to : TE} (ho : Ev to σ H (.ref o)) (hi : H o = some (.ins C dx fs)) (hm : fs.lookup m = none) (h : EvAs ta σ H as)
    (hs : ∀ H1 vs, Ex H H1 → AsOk H1 as vs → ∀ Q : VK, (∀ v H2, Ex H1 H2 → P v H2 → Q v H2) → sp (.ref o :: vs) H1 Q E) : EvP (tMeth C m sp [] E to ta) σ H P := fun H1 e1 Q q =>
  ho H1 e1 _ fun H2 e2 => ⟨o, dx, fs, rfl, (e1.trans e2) _ _ hi, hm, h H2 (e1.trans e2) _ fun vs H3 e3 p => by
    show sp (.ref o :: (vs ++ [])) H3 Q E
    rw [List.append_nil]
    exact hs H3 vs ((e1.trans e2).trans e3) p Q fun v H4 e4 => q v H4 ((e2.trans e3).trans e4)⟩
/-- the shapes of promises -/
def RetP (P : V → Hp → Prop) (H : Hp) (Q : VK) : Prop := ∀ v H2, Ex H H2 → P v H2 → Q v H2
/-- o.f -/
theorem ev_fld {C o dx : Addr} {fs : List (Str × V)} {f : Str} {to : TE} (ho : Ev to σ H (.ref o)) (hi : H o = some (.ins C dx fs)) (c : Cls K C) (n : NoAttr K C f) (hf : fs.lookup f = some v) : Ev (tFld K to f) σ H v := fun H1 e1 Q q =>
  ho H1 e1 _ fun H2 e2 => ⟨o, C, dx, fs, v, rfl, (e1.trans e2) _ _ hi, c, n, hf, q H2 e2⟩
theorem ev_ifV {b : Bool} (h : EvT t σ H b) (h1 : b = true → EvP ta σ H P) (h2 : b = false → EvP tb σ H P) : EvP (tIf t ta tb) σ H P := fun H1 e1 Q q => h H1 e1 _ fun H2 e2 => by
  cases b with
  | true =>
    show ta σ H2 Q
    exact h1 rfl H2 (e1.trans e2) Q fun v H3 e3 p => q v H3 (e2.trans e3) p
  | false =>
    show tb σ H2 Q
    exact h2 rfl H2 (e1.trans e2) Q fun v H3 e3 p => q v H3 (e2.trans e3) p
end

/-! ### statements -/
section
variable {K : PySem.W.Frag} {σ : L2.St} {H H' : Hp} {ta tb te tx : TE} {t u : TT} {x y z v : V} {E : Ends} {tu tw tz : TS} {g : TG} {P P2 : V → Hp → Prop} {d e : D} {ds es : List D}
theorem s_asgP {i : Nat} (h : EvP te σ H P) (k : ∀ v H1, Ex H H1 → P v H1 → E.nx (σ.set i (some v)) H1) : tAsg te (gName i) E σ H := h H (Ex.refl H) _ fun v H1 e1 p => k v H1 e1 p
theorem q_asgP {i : Nat} (h : EvP te σ H P) (k : ∀ v H1, Ex H H1 → P v H1 → tz E (σ.set i (some v)) H1) : tSeq (tAsg te (gName i)) tz E σ H := s_asgP (E := { E with nx := tz E }) h k
theorem s_retP (h : EvP te σ H P) (k : RetP P H E.rt) : tRet te E σ H := h H (Ex.refl H) _ k
theorem s_retE (h : EvP te σ H P) (k : ∀ v H1, Ex H H1 → P v H1 → E.rt v H1) : tRet te E σ H := h H (Ex.refl H) _ k
theorem s_dropP (h : EvP te σ H P) (k : ∀ v H1, Ex H H1 → P v H1 → E.nx σ H1) : tDrop te E σ H := h H (Ex.refl H) _ k
theorem q_dropP (h : EvP te σ H P) (k : ∀ v H1, Ex H H1 → P v H1 → tz E σ H1) : tSeq (tDrop te) tz E σ H := s_dropP (E := { E with nx := tz E }) h k
/-- xs.append(e) -/
theorem s_appD {l : Addr} (hl : LstD H l ds) (ha : Ev ta σ H (.ref l)) (h : EvD te σ H d) (hz : ds.length < 100000) (k : ∀ H1, ExB l H H1 → LstD H1 l (ds ++ [d]) → E.nx σ H1) :
    tDrop (tBM K "list" rAppend ta (tCons te tNil)) E σ H := ha H (Ex.refl H) _ fun H1 e1 => by
  obtain ⟨xs, h1, h2⟩ := hl
  refine ⟨Or.inl ⟨rfl, xs, sq_of (e1 l _ h1)⟩, h H1 e1 _ fun v H2 e2 p => ⟨l, xs, v, rfl, rfl, (e1.trans e2) l _ h1, sz_lt (by rw [h2.length]; exact hz), ?_⟩⟩
  have nt : ∀ ys, H2 l ≠ some (.tup ys) := fun ys q => by rw [(e1.trans e2) l _ h1] at q; cases q
  have eb : ExB l H2 (upd H2 l (.lst (xs ++ [v]))) := ExB.upd nt
  exact k _ ((ExB.of (e1.trans e2)).trans eb) ⟨_, upd_same, ((h2.ex (e1.trans e2)).tk eb.2).append (.one (Rp.tk eb.2 p))⟩
theorem q_appD {l : Addr} (hl : LstD H l ds) (ha : Ev ta σ H (.ref l)) (h : EvD te σ H d) (hz : ds.length < 100000) (k : ∀ H1, ExB l H H1 → LstD H1 l (ds ++ [d]) → tz E σ H1) :
    tSeq (tDrop (tBM K "list" rAppend ta (tCons te tNil))) tz E σ H := s_appD (E := { E with nx := tz E }) hl ha h hz k
/-- xs.extend(new list) -/
theorem s_extD {l : Addr} (hl : LstD H l ds) (ha : Ev ta σ H (.ref l)) (h : EvLs te σ H es) (hz : ds.length + es.length ≤ 100000) (k : ∀ H1, ExB l H H1 → LstD H1 l (ds ++ es) → E.nx σ H1) :
    tDrop (tBM K "list" rExtend ta (tCons te tNil)) E σ H := ha H (Ex.refl H) _ fun H1 e1 => by
  obtain ⟨xs, h1, h2⟩ := hl
  refine ⟨Or.inl ⟨rfl, xs, sq_of (e1 l _ h1)⟩, h H1 e1 _ fun v H2 e2 ⟨b, ev, zs, j1, j2⟩ => ⟨l, b, xs, zs, rfl, by rw [ev], (e1.trans e2) l _ h1, j1, sz_of (by rw [h2.length, j2.length]; exact hz), ?_⟩⟩
  have nt : ∀ ys, H2 l ≠ some (.tup ys) := fun ys q => by rw [(e1.trans e2) l _ h1] at q; cases q
  have eb : ExB l H2 (upd H2 l (.lst (xs ++ zs))) := ExB.upd nt
  exact k _ ((ExB.of (e1.trans e2)).trans eb) ⟨_, upd_same, ((h2.ex (e1.trans e2)).tk eb.2).append (j2.tk eb.2)⟩
/-- targets -/
theorem g_two {i j : Nat} {Q : L2.St → Hp → Prop} (h : Rp H v (.tup [d, e])) (k : ∀ x y, Rp H x d → Rp H y e → Q ((σ.set i (some x)).set j (some y)) H) : gTup K 2 (gCons (gName i) (gCons (gName j) gNil)) v σ H Q := by
  cases h with
  | tup h1 h2 =>
    rename_i a xs
    cases h2 with
    | cons r1 t =>
      cases t with
      | cons r2 t =>
        cases t
        exact ⟨a, _, rfl, SqT.of h1, rfl, _, _, rfl, _, _, rfl, rfl, k _ _ r1 r2⟩
theorem g_three {i j l : Nat} {f : D} {Q : L2.St → Hp → Prop} (h : Rp H v (.tup [d, e, f])) (k : ∀ x y z, Rp H x d → Rp H y e → Rp H z f → Q (((σ.set i (some x)).set j (some y)).set l (some z)) H) : gTup K 3 (gCons (gName i) (gCons (gName j) (gCons (gName l) gNil))) v σ H Q := by
  cases h with
  | tup h1 h2 =>
    rename_i a xs
    cases h2 with
    | cons r1 t =>
      cases t with
      | cons r2 t =>
        cases t with
        | cons r3 t =>
          cases t
          exact ⟨a, _, rfl, SqT.of h1, rfl, _, _, rfl, _, _, rfl, _, _, rfl, rfl, k _ _ _ r1 r2 r3⟩
/-- for x in xs, a list of data that stays -/
theorem s_forD {a : Addr} {tl : TE} (h : Ev tl σ H (.ref a)) (hl : LstD H a ds) (Pv : Nat → L2.St → Hp → Prop) (h0 : ∀ H1, Ex H H1 → Pv 0 σ H1) (hk : ∀ i σ' H', Pv i σ' H' → Tk H H' ∧ ∀ o, H a = some o → H' a = some o)
    (hs : ∀ i v d σ' H', ds[i]? = some d → Rp H' v d → Pv i σ' H' → g v σ' H' fun σ2 H2 => tu { E with nx := Pv (i + 1), ct := Pv (i + 1), bk := E.nx } σ2 H2) (hd : ∀ σ' H', Pv ds.length σ' H' → E.nx σ' H') : tFor (iList K tl) g tu E σ H := by
  obtain ⟨xs, h1, h2⟩ := hl
  refine s_forL h (sq_of h1) Pv h0 (fun i σ' H' _ p => sq_of ((hk i σ' H' p).2 _ h1)) (fun i x σ' H' hi p => ?_) (fun σ' H' p => hd σ' H' (by rw [← h2.length]; exact p))
  obtain ⟨d, hd', r⟩ := h2.get hi
  exact hs i x d σ' H' hd' (r.tk (hk i σ' H' p).1) p
theorem q_forD {a : Addr} {tl : TE} (h : Ev tl σ H (.ref a)) (hl : LstD H a ds) (Pv : Nat → L2.St → Hp → Prop) (h0 : ∀ H1, Ex H H1 → Pv 0 σ H1) (hk : ∀ i σ' H', Pv i σ' H' → Tk H H' ∧ ∀ o, H a = some o → H' a = some o)
    (hs : ∀ i v d σ' H', ds[i]? = some d → Rp H' v d → Pv i σ' H' → g v σ' H' fun σ2 H2 => tu { E with nx := Pv (i + 1), ct := Pv (i + 1), bk := tz E } σ2 H2) (hd : ∀ σ' H', Pv ds.length σ' H' → tz E σ' H') : tSeq (tFor (iList K tl) g tu) tz E σ H :=
  s_forD (E := { E with nx := tz E }) h hl Pv h0 hk hs hd
/-- over a list that is made for it -/
theorem s_forN {tl : TE} (h : EvLs tl σ H ds) (Pv : Addr → Hp → Nat → L2.St → Hp → Prop) (h0 : ∀ a H1, Ex H H1 → LstD H1 a ds → Pv a H1 0 σ H1) (hk : ∀ a H1 i σ' H', Pv a H1 i σ' H' → Tk H1 H' ∧ ∀ o, H1 a = some o → H' a = some o)
    (hs : ∀ a H1 i v d σ' H', Ex H H1 → ds[i]? = some d → Rp H' v d → Pv a H1 i σ' H' → g v σ' H' fun σ2 H2 => tu { E with nx := Pv a H1 (i + 1), ct := Pv a H1 (i + 1), bk := E.nx } σ2 H2) (hd : ∀ a H1 σ' H', Ex H H1 → Pv a H1 ds.length σ' H' → E.nx σ' H') : tFor (iList K tl) g tu E σ H :=
  h H (Ex.refl H) _ fun v H1 e1 ⟨a, ev, xs, h1, h2⟩ => by
    subst ev
    refine ⟨a, rfl, ⟨xs, sq_of h1⟩, for_list (Pv a H1) (h0 a H1 e1 ⟨xs, h1, h2⟩) (fun i σ' H' _ p => sq_of ((hk a H1 i σ' H' p).2 _ h1)) (fun i x σ' H' hi p => ?_) (fun σ' H' p => hd a H1 σ' H' e1 (by rw [← h2.length]; exact p))⟩
    obtain ⟨d, hd', r⟩ := h2.get hi
    exact hs a H1 i x d σ' H' e1 hd' (r.tk (hk a H1 i σ' H' p).1) p
theorem q_forN {tl : TE} (h : EvLs tl σ H ds) (Pv : Addr → Hp → Nat → L2.St → Hp → Prop) (h0 : ∀ a H1, Ex H H1 → LstD H1 a ds → Pv a H1 0 σ H1) (hk : ∀ a H1 i σ' H', Pv a H1 i σ' H' → Tk H1 H' ∧ ∀ o, H1 a = some o → H' a = some o)
    (hs : ∀ a H1 i v d σ' H', Ex H H1 → ds[i]? = some d → Rp H' v d → Pv a H1 i σ' H' → g v σ' H' fun σ2 H2 => tu { E with nx := Pv a H1 (i + 1), ct := Pv a H1 (i + 1), bk := tz E } σ2 H2) (hd : ∀ a H1 σ' H', Ex H H1 → Pv a H1 ds.length σ' H' → tz E σ' H') : tSeq (tFor (iList K tl) g tu) tz E σ H :=
  s_forN (E := { E with nx := tz E }) h Pv h0 hk hs hd
/-- for i, x in enumerate(xs) -/
theorem for_enum {a : Addr} {xs : List V} {σ : L2.St} {H : Hp} (Pv : Nat → L2.St → Hp → Prop) (h0 : Pv 0 σ H) (hl : ∀ i σ H, i ≤ xs.length → Pv i σ H → SqL K H a xs)
    (hs : ∀ i x σ H T, xs[i]? = some x → Pv i σ H → H T = none → g (.ref T) σ (upd H T (.tup [.int (i : Nat), x])) fun σ2 H2 => tu { E with nx := Pv (i + 1), ct := Pv (i + 1), bk := E.nx } σ2 H2) (hd : ∀ σ H, Pv xs.length σ H → E.nx σ H) :
    ∃ W : Nat → Nat → L2.St → Hp → Prop, (∃ m, W 0 m σ H) ∧ ∀ i m σ H, W i m σ H →
      ((Ite K a).stop i H ∧ E.nx σ H) ∨ ((Ite K a).go i H ∧ ∃ N : L2.St → Hp → Prop, (∀ σ' H', N σ' H' → ∃ m', m' < m ∧ W (i + 1) m' σ' H') ∧ ∀ x H', (Ite K a).yld i H x H' → g x σ H' fun σ2 H2 => tu { E with nx := N, ct := N, bk := E.nx } σ2 H2) := by
  refine ⟨fun i m σ H => m = xs.length - i ∧ i ≤ xs.length ∧ Pv i σ H, ⟨xs.length, by simp, Nat.zero_le _, h0⟩, ?_⟩
  rintro i m σ H ⟨rfl, hi, p⟩
  have q := hl i σ H hi p
  by_cases hlt : i < xs.length
  · refine .inr ⟨⟨xs, xs[i], q, by simp [hlt]⟩, Pv (i + 1), fun σ' H' p' => ⟨xs.length - (i + 1), by omega, rfl, hlt, p'⟩, fun x H' y => ?_⟩
    obtain ⟨T, y, rfl, hT, rfl, hy⟩ := y
    exact hs i y σ _ T (hy xs q) p hT
  · have e : i = xs.length := by omega
    subst e
    exact .inl ⟨⟨xs, q, Nat.le_refl _⟩, hd σ H p⟩
theorem s_forE {a : Addr} {ta : TA} (h : EvA ta σ H [.ref a]) (hl : LstD H a ds) (Pv : Nat → L2.St → Hp → Prop) (h0 : ∀ H1, Ex H H1 → Pv 0 σ H1) (hk : ∀ i σ' H', Pv i σ' H' → Tk H H' ∧ ∀ o, H a = some o → H' a = some o)
    (hs : ∀ i T v d σ' H', ds[i]? = some d → Rp H' v d → H' T = none → Pv i σ' H' → g (.ref T) σ' (upd H' T (.tup [.int (i : Nat), v])) fun σ2 H2 => tu { E with nx := Pv (i + 1), ct := Pv (i + 1), bk := E.nx } σ2 H2) (hd : ∀ σ' H', Pv ds.length σ' H' → E.nx σ' H') : tFor (iEnum K ta) g tu E σ H := by
  obtain ⟨xs, h1, h2⟩ := hl
  refine h H (Ex.refl H) _ fun H1 e1 => ⟨a, xs, rfl, sq_of (e1 _ _ h1), for_enum (xs := xs) Pv (h0 H1 e1) (fun i σ' H' _ p => sq_of ((hk i σ' H' p).2 _ h1)) (fun i x σ' H' T hi p hT => ?_) (fun σ' H' p => hd σ' H' (by rw [← h2.length]; exact p))⟩
  obtain ⟨d, hd', r⟩ := h2.get hi
  exact hs i T x d σ' H' hd' (r.tk (hk i σ' H' p).1) hT p
theorem q_forE {a : Addr} {ta : TA} (h : EvA ta σ H [.ref a]) (hl : LstD H a ds) (Pv : Nat → L2.St → Hp → Prop) (h0 : ∀ H1, Ex H H1 → Pv 0 σ H1) (hk : ∀ i σ' H', Pv i σ' H' → Tk H H' ∧ ∀ o, H a = some o → H' a = some o)
    (hs : ∀ i T v d σ' H', ds[i]? = some d → Rp H' v d → H' T = none → Pv i σ' H' → g (.ref T) σ' (upd H' T (.tup [.int (i : Nat), v])) fun σ2 H2 => tu { E with nx := Pv (i + 1), ct := Pv (i + 1), bk := tz E } σ2 H2) (hd : ∀ σ' H', Pv ds.length σ' H' → tz E σ' H') : tSeq (tFor (iEnum K ta) g tu) tz E σ H :=
  s_forE (E := { E with nx := tz E }) h hl Pv h0 hk hs hd
/-- at, (path, place) of an enumerated list of pairs -/
theorem g_enum2 {i j l k : Nat} {T : Addr} {Q : L2.St → Hp → Prop} (hT : H T = none) (h : Rp H v (.tup [d, e])) (kk : ∀ x y H', Ex H H' → Rp H' x d → Rp H' y e → Q (((σ.set i (some (.int (k : Nat)))).set j (some x)).set l (some y)) H') :
    gTup K 2 (gCons (gName i) (gCons (gTup K 2 (gCons (gName j) (gCons (gName l) gNil))) gNil)) (.ref T) σ (upd H T (.tup [.int (k : Nat), v])) Q :=
  ⟨T, _, rfl, SqT.of upd_same, rfl, _, _, rfl, _, _, rfl, g_two (h.ex (Ex.new hT)) fun x y rx ry => ⟨rfl, kk x y _ (Ex.new hT) rx ry⟩⟩
/-- a pure comprehension over a list of data -/
theorem evn_lc {tl : TE} {tt : TT} {vs : List Nat} (h : EvLs tl σ H ds) (hz : ds.length ≤ 50000) (f : D → Option D)
    (hs : ∀ v d H1, d ∈ ds → Ex H H1 → Rp H1 v d → g v (wipe σ vs) H1 fun σ2 H2 => Ex H1 H2 ∧ wipe σ2 vs = wipe σ vs ∧ ∃ b, EvT tt σ2 H2 b ∧ (b = true → ∃ e, f d = some e ∧ EvD te σ2 H2 e) ∧ (b = false → f d = none))
    (hg : ∀ v σ' H' (Q Q' : L2.St → Hp → Prop), (∀ σ2 H2, Q σ2 H2 → Q' σ2 H2) → g v σ' H' Q → g v σ' H' Q') :
    EvN (tLc (iList K tl) g tt te vs) σ H (ds.filterMap f) := fun H0 e0 Q q =>
  h H0 e0 _ fun v H1 e1 ⟨a, ev, xs, h1, h2⟩ => by
    subst ev
    refine ⟨a, rfl, ⟨xs, sq_of h1⟩, fun Dl hD => lc_list (K := K) (a := a) (xs := xs) (fun i H' => Ex H1 H' ∧ i ≤ ds.length ∧ LstD H' Dl ((ds.take i).filterMap f)) ⟨Ex.new hD, Nat.zero_le _, [], upd_same, .nil⟩ (fun i H' _ p => sq_of (p.1 _ _ h1)) (fun i x H' hi p => ?_) (fun H' p => ?_)⟩
    · obtain ⟨d, hd, r⟩ := h2.get hi
      obtain ⟨p1, pi, p2⟩ := p
      have hlt : i < ds.length := (List.getElem?_eq_some_iff.mp hd).1
      have et : ds.take (i + 1) = ds.take i ++ [d] := by rw [List.take_add_one, hd]; rfl
      refine hg _ _ _ _ _ (fun σ2 H2 hq => ?_) (hs x d H' (List.mem_of_getElem? hd) ((e0.trans e1).trans p1) (r.ex p1))
      obtain ⟨e2, hw, b, ht, hy, hn⟩ := hq
      refine ⟨hw, ht H2 (Ex.refl _) _ fun H3 e3 => ?_⟩
      have p2' : LstD H3 Dl ((ds.take i).filterMap f) := p2.ex (e2.trans e3)
      have pe : Ex H1 H3 := (p1.trans e2).trans e3
      cases b with
      | true =>
        obtain ⟨e, he, hE⟩ := hy rfl
        show te σ2 H3 _
        refine hE H3 e3 _ fun y H4 e4 py => ?_
        obtain ⟨acc, k1, k2⟩ := p2'.ex e4
        have nt : ∀ ys, H4 Dl ≠ some (.tup ys) := fun ys q => by rw [k1] at q; cases q
        have eb : ExB Dl H4 (upd H4 Dl (.lst (acc ++ [y]))) := ExB.upd nt
        have hal : acc.length ≤ 50000 := by
          rw [k2.length]
          refine Nat.le_trans (List.length_filterMap_le ..) ?_
          rw [List.length_take]
          omega
        refine ⟨acc, k1, sz_lt (by omega), eb.anch (pe.trans e4) hD, hlt, ?_⟩
        rw [et, List.filterMap_append]
        refine ⟨_, upd_same, (k2.tk eb.2).append ?_⟩
        simp only [List.filterMap_cons, he, List.filterMap_nil]
        exact .one (Rp.tk eb.2 py)
      | false =>
        show Ex H1 H3 ∧ i + 1 ≤ ds.length ∧ _
        refine ⟨pe, hlt, ?_⟩
        rw [et, List.filterMap_append]
        simp only [List.filterMap_cons, hn rfl, List.filterMap_nil, List.append_nil]
        exact p2'
    · obtain ⟨p1, _, p2⟩ := p
      rw [h2.length, List.take_length] at p2
      exact q _ H' (e1.trans p1) ⟨Dl, rfl, fresh_back (e0.trans e1) hD, p2⟩
theorem g_mono_name {i : Nat} {v : V} {σ' : L2.St} {H' : Hp} {Q Q' : L2.St → Hp → Prop} (h : ∀ σ2 H2, Q σ2 H2 → Q' σ2 H2) (q : gName i v σ' H' Q) : gName i v σ' H' Q' := h _ _ q
theorem g_mono_two {i j : Nat} {v : V} {σ' : L2.St} {H' : Hp} {Q Q' : L2.St → Hp → Prop} (h : ∀ σ2 H2, Q σ2 H2 → Q' σ2 H2) (q : gTup K 2 (gCons (gName i) (gCons (gName j) gNil)) v σ' H' Q) : gTup K 2 (gCons (gName i) (gCons (gName j) gNil)) v σ' H' Q' := by
  obtain ⟨a, xs, e1, e2, e3, v1, r1, e4, v2, r2, e5, e6, q⟩ := q
  exact ⟨a, xs, e1, e2, e3, v1, r1, e4, v2, r2, e5, e6, h _ _ q⟩
theorem g_mono_three {i j l : Nat} {v : V} {σ' : L2.St} {H' : Hp} {Q Q' : L2.St → Hp → Prop} (h : ∀ σ2 H2, Q σ2 H2 → Q' σ2 H2) (q : gTup K 3 (gCons (gName i) (gCons (gName j) (gCons (gName l) gNil))) v σ' H' Q) : gTup K 3 (gCons (gName i) (gCons (gName j) (gCons (gName l) gNil))) v σ' H' Q' := by
  obtain ⟨a, xs, e1, e2, e3, v1, r1, e4, v2, r2, e5, v3, r3, e6, e7, q⟩ := q
  exact ⟨a, xs, e1, e2, e3, v1, r1, e4, v2, r2, e5, v3, r3, e6, e7, h _ _ q⟩
end
end R
/-! DL3: dicts whose keys are tuples of data, kept as exact objects -/
namespace R
open PySem PySem.Spec PyProof.Rows L2 Evl

def IsO (d : Addr) (o : Obj) : Heap → Prop := fun h => h.get? d = some o
abbrev xO (d : Addr) (o : Obj) : HO := .ext (IsO d o)
/-- an entry: key, where the key's tuple stands, value -/
abbrev Ent (H : Hp) (p : D × V) (q : D × Addr × Value) : Prop := p.1 = q.1 ∧ Rp H (.ref q.2.1) p.1 ∧ p.1.depth ≤ 8 ∧ RelV p.2 q.2.2
def DctO (w : World) (H : Hp) (d : Addr) (o : Obj) (kvs : List (D × V)) : Prop :=
  H d = some (xO d o) ∧ (d == sysModules) = false ∧ o.ExactDict ∧ kvs.length ≤ sizeLine ∧ ∃ es ep, o.data = .dict es ep ∧ ∃ xs : List (D × Addr × Value),
    es.toList = xs.map (fun x => (⟨x.1.hash w, .ref x.2.1, x.2.2⟩ : DictEntry)) ∧ (xs.map (·.1)).Nodup ∧ Paired (Ent H) kvs xs
def Dct (w : World) (H : Hp) (d : Addr) (kvs : List (D × V)) : Prop := ∃ o, DctO w H d o kvs
section
variable {w : World} {H H' : Hp} {d : Addr} {o : Obj} {kvs : List (D × V)}
theorem ent_tk {l : List (D × V)} {m : List (D × Addr × Value)} (k : Tk H H') (h : Paired (Ent H) l m) : Paired (Ent H') l m := Paired.mapP h fun _ _ q => ⟨q.1, Rp.tk k q.2.1, q.2.2⟩
theorem DctO.ex (e : Ex H H') (h : DctO w H d o kvs) : DctO w H' d o kvs := by
  obtain ⟨h1, h2, h3, h4, es, ep, h5, xs, h6, h7, h8⟩ := h
  exact ⟨e _ _ h1, h2, h3, h4, es, ep, h5, xs, h6, h7, ent_tk (Tk.of e) h8⟩
theorem DctO.exb {b : Addr} (e : ExB b H H') (hb : d ≠ b) (h : DctO w H d o kvs) : DctO w H' d o kvs := by
  obtain ⟨h1, h2, h3, h4, es, ep, h5, xs, h6, h7, h8⟩ := h
  exact ⟨e.1 _ _ hb h1, h2, h3, h4, es, ep, h5, xs, h6, h7, ent_tk e.2 h8⟩
theorem Dct.ex (e : Ex H H') (h : Dct w H d kvs) : Dct w H' d kvs := let ⟨o, h⟩ := h; ⟨o, h.ex e⟩
theorem Dct.exb {b : Addr} (e : ExB b H H') (hb : d ≠ b) (h : Dct w H d kvs) : Dct w H' d kvs := let ⟨o, h⟩ := h; ⟨o, h.exb e hb⟩
theorem DctO.tk (k : Tk H H') (e : H' d = some (xO d o)) (h : DctO w H d o kvs) : DctO w H' d o kvs := by
  obtain ⟨h1, h2, h3, h4, es, ep, h5, xs, h6, h7, h8⟩ := h
  exact ⟨e, h2, h3, h4, es, ep, h5, xs, h6, h7, ent_tk k h8⟩
theorem Dct.some (h : Dct w H d kvs) : ∃ o, H d = Option.some (xO d o) := let ⟨o, h⟩ := h; ⟨o, h.1⟩
theorem Dct.notup (h : Dct w H d kvs) (xs : List V) : H d ≠ Option.some (HO.tup xs) := fun e => by
  obtain ⟨o, h⟩ := h.some
  rw [h] at e
  cases e
theorem keys_map {α β γ : Type} {F : (D × V) → (D × Addr × Value) → Prop} : ∀ {l : List (D × V)} {m : List (D × Addr × Value)}, Paired F l m → (∀ p q, F p q → p.1 = q.1) → l.map (·.1) = m.map (·.1)
  | _, _, .nil, _ => rfl
  | _, _, .cons r t, k => by rw [List.map_cons, List.map_cons, k _ _ r, keys_map (α := α) (β := β) (γ := γ) t k]
theorem DctO.nodup (h : DctO w H d o kvs) : (kvs.map (·.1)).Nodup := by
  obtain ⟨h1, h2, h3, h4, es, ep, h5, xs, h6, h7, h8⟩ := h
  rw [keys_map (α := Unit) (β := Unit) (γ := Unit) h8 fun _ _ q => q.1]
  exact h7
theorem Dct.nodup (h : Dct w H d kvs) : (kvs.map (·.1)).Nodup := let ⟨_, h⟩ := h; h.nodup
theorem ent_val {l : List (D × V)} {m : List (D × Addr × Value)} (r : Paired (Ent H) l m) (k : D) : RelO (valV l k) ((atKey m k).map (·.2)) := by
  induction r with
  | nil => exact True.intro
  | @cons p q ps qs h t ih =>
    obtain ⟨h1, h2, h3, h4⟩ := h
    by_cases e : p.1 = k
    · have b : atKey (q :: qs) k = some q.2 := by simp [atKey, List.find?_cons, ← h1, e]
      rw [valV_pos e, b]
      exact h4
    · have b : atKey (q :: qs) k = atKey qs k := by simp [atKey, List.find?_cons, ← h1, e]
      rw [valV_neg e, b]
      exact ih
theorem ent_putAt {k : D} {b : Addr} {y : V} {u : Value} (ry : RelV y u) {l : List (D × V)} {m : List (D × Addr × Value)} (r : Paired (Ent H) l m) : Paired (Ent H) (l.map fun kv => if kv.1 = k then (kv.1, y) else kv) (m.map (putAt k u)) := by
  induction r with
  | nil => exact .nil
  | @cons p q ps qs h t ih =>
    refine .cons ?_ ih
    obtain ⟨h1, h2, h3, h4⟩ := h
    show Ent H (if p.1 = k then (p.1, y) else p) (putAt k u q)
    by_cases e : p.1 = k
    · have e' : q.1 = k := h1 ▸ e
      unfold putAt
      rw [if_pos e, if_pos e']
      exact ⟨h1, h2, h3, ry⟩
    · have e' : ¬ q.1 = k := fun z => e (h1.trans z)
      unfold putAt
      rw [if_neg e, if_neg e']
      exact ⟨h1, h2, h3, h4⟩
theorem ent_snoc {l : List (D × V)} {m : List (D × Addr × Value)} {p : D × V} {q : D × Addr × Value} (r : Paired (Ent H) l m) (h : Ent H p q) : Paired (Ent H) (l ++ [p]) (m ++ [q]) := Paired.snoc r h
theorem ent_put {l : List (D × V)} {m : List (D × Addr × Value)} (r : Paired (Ent H) l m) {k : D} {b : Addr} (rk : Rp H (.ref b) k) (hd : k.depth ≤ 8) {y : V} {u : Value} (ry : RelV y u) :
    Paired (Ent H) (putK l k y) (storedH m k b u) := by
  have a : (l.any fun kv => decide (kv.1 = k)) = (atKey m k).isSome := by
    rw [valV_any]
    have q := (ent_val r k).isSome_eq
    rw [Option.isSome_map] at q
    exact q
  unfold putK storedH
  rw [a]
  split
  · exact ent_putAt (b := b) ry r
  · exact ent_snoc r ⟨rfl, rk, hd, ry⟩
end

section
variable {X : Cx} {pins : List (Addr × Obj)} {σ : L2.St} {H : Hp} {s : Shared} {d : Addr} {o : Obj} {kvs : List (D × V)} {y v : V} {u r : Value} {k : D} {A : Around} {E : Value → Shared → Prop}
abbrev nk (X : Cx) := nestedKind X.prog X.w
theorem ent_is {l : List (D × V)} {m : List (D × Addr × Value)} (I : Inv X pins σ H s) (h : Paired (Ent H) l m) : ∀ x ∈ m, (nk X).is s.heap x.1 x.2.1 := by
  induction h with
  | nil => intro x hx; exact nomatch hx
  | @cons p q ps qs hq t ih =>
    intro x hx
    rcases List.mem_cons.mp hx with e | hx
    · subst e
      exact ⟨by rw [← hq.1]; exact Rp.is I.hok hq.2.1 rfl, by rw [← hq.1]; exact hq.2.2.1⟩
    · exact ih x hx
theorem DctO.at (I : Inv X pins σ H s) (h : DctO X.w H d o kvs) : s.heap.get? d = some o := (show _ ∧ _ from I.hok d _ h.1).1
theorem DctO.ofH (I : Inv X pins σ H s) (h : DctO X.w H d o kvs) : ∃ xs, s.heap.DictOfH (nk X) d xs ∧ Paired (Ent H) kvs xs := by
  have ho := h.at I
  obtain ⟨h1, h2, h3, h4, es, ep, h5, xs, h6, h7, h8⟩ := h
  exact ⟨xs, ⟨o, es, ep, ho, h3, h5, h6, ent_is I h8, h7⟩, h8⟩
/-- a tuple key -/
structure KeyAt (H : Hp) (y : V) (k : D) : Prop where
  rp : Rp H y k
  tup : ∃ ks, k = .tup ks
  dep : k.depth ≤ 8
theorem KeyAt.ref (h : KeyAt H y k) : ∃ b, y = .ref b := by
  obtain ⟨h1, ⟨ks, rfl⟩, _⟩ := h
  cases h1
  exact ⟨_, rfl⟩
theorem KeyAt.ex {H' : Hp} (e : Ex H H') (h : KeyAt H y k) : KeyAt H' y k := ⟨h.rp.ex e, h.tup, h.dep⟩
theorem KeyAt.is {b : Addr} (I : Inv X pins σ H s) (h : KeyAt H (.ref b) k) : (nk X).is s.heap k b := ⟨Rp.is I.hok h.rp rfl, h.dep⟩
def Room9 (A : Around) : Prop := A.units + 20 < cLine
theorem room9 {n : Nat} (h : Room n A) : Room9 A := by have := h.un; unfold Room9; omega
theorem Room9.in1 (h : Room9 A) : (nk X).room A.in1 := by
  show A.units + 1 + 8 < cLine
  have : A.units + 20 < cLine := h
  omega
theorem n_getItem {Q : Value → Shared → Prop} (hu : Room9 A) (I : Inv X pins σ H s) (g : Dct X.w H d kvs) (hk : KeyAt H y k) (hv : valV kvs k = some v) (ry : RelV y u) (h : ∀ w' s', Inv X pins σ H s' → RelV v w' → Q w' s') :
    wpAny (model X.prog X.w) A (getItem (.ref d) u) Q E s := by
  obtain ⟨o, g⟩ := g
  obtain ⟨b, rfl⟩ := hk.ref
  cases (show u = Value.ref b from ry)
  obtain ⟨xs, dd, rel⟩ := g.ofH I
  obtain ⟨w', hw, rw'⟩ := RelO.some_of (v := v) (o := (atKey xs k).map (·.2)) (by rw [← hv]; exact ent_val rel k)
  obtain ⟨p, hp, hp2⟩ := Option.map_eq_some_iff.mp hw
  refine wpAny_getItem_heap hu.in1 (hk.is I) dd hp ?_
  rw [hp2]
  exact h w' _ (I.tok _) rw'
theorem n_in {Q : Value → Shared → Prop} (hu : Room9 A) (I : Inv X pins σ H s) (g : Dct X.w H d kvs) (hk : KeyAt H y k) (ry : RelV y u) (h : ∀ s', Inv X pins σ H s' → Q (.bool (valV kvs k).isSome) s') :
    wpAny (model X.prog X.w) A (compareOp .In u (.ref d)) Q E s := by
  obtain ⟨o, g⟩ := g
  obtain ⟨b, rfl⟩ := hk.ref
  cases (show u = Value.ref b from ry)
  obtain ⟨xs, dd, rel⟩ := g.ofH I
  refine wpAny_in_heap hu.in1 (hk.is I) g.2.1 dd ?_
  have q := (ent_val rel k).isSome_eq
  rw [Option.isSome_map] at q
  rw [← q]
  exact h _ (I.tok _)
theorem n_notIn {Q : Value → Shared → Prop} (hu : Room9 A) (I : Inv X pins σ H s) (g : Dct X.w H d kvs) (hk : KeyAt H y k) (ry : RelV y u) (h : ∀ s', Inv X pins σ H s' → Q (.bool (!(valV kvs k).isSome)) s') :
    wpAny (model X.prog X.w) A (compareOp .NotIn u (.ref d)) Q E s := by
  obtain ⟨o, g⟩ := g
  obtain ⟨b, rfl⟩ := hk.ref
  cases (show u = Value.ref b from ry)
  obtain ⟨xs, dd, rel⟩ := g.ofH I
  show wpAny _ _ (do return .bool (!(← contains (.ref d) (.ref b)))) Q E s
  refine wpAny_bind (wpAny_contains_heap hu.in1 (hk.is I) g.2.1 dd (wpAny_pure ?_))
  have q := (ent_val rel k).isSome_eq
  rw [Option.isSome_map] at q
  rw [← q]
  exact h _ (I.tok _)
/-- the dict's new object behind a store -/
theorem n_new {h' : Heap} {t' : Nat} {xs : List (D × Addr × Value)} {kvs' : List (D × V)} (I : Inv X pins σ H s) (g : DctO X.w H d o kvs) (dd : h'.DictOfH (nk X) d xs) (hs : Heap.SameBut d s.heap h') (rel : Paired (Ent H) kvs' xs) (hz : kvs'.length ≤ sizeLine) :
    ∃ o', Inv X pins σ (upd H d (xO d o')) { s with heap := h', toks := t' } ∧ DctO X.w (upd H d (xO d o')) d o' kvs' := by
  obtain ⟨o', es, ep, ho, hx, hdt, he, his, hn⟩ := dd
  have eb : ∀ o' : Obj, ExB d H (upd H d (xO d o')) := fun o' => ExB.upd fun ys e => by rw [g.1] at e; cases e
  refine ⟨o', d_write I (by rw [g.1]; exact True.intro) hs ⟨o', ho⟩ ⟨ho, ⟨o', ho⟩, fun h1 h2 e k => k _ e⟩, ?_⟩
  exact ⟨upd_same, g.2.1, hx, hz, es, ep, hdt, xs, he, hn, ent_tk (eb o').2 rel⟩
theorem n_setItem {Q : Unit → Shared → Prop} (hu : Room9 A) (I : Inv X pins σ H s) (g : Dct X.w H d kvs) (hk : KeyAt H y k) (hl : kvs.length < 100000) (ry : RelV y u) (rv : RelV v r)
    (h : ∀ s' o', Inv X pins σ (upd H d (xO d o')) s' → DctO X.w (upd H d (xO d o')) d o' (putK kvs k v) → Q () s') : wpAny (model X.prog X.w) A (setItem (.ref d) u r) Q E s := by
  obtain ⟨o, g⟩ := g
  obtain ⟨b, rfl⟩ := hk.ref
  cases (show u = Value.ref b from ry)
  obtain ⟨xs, dd, rel⟩ := g.ofH I
  have hz : xs.length ≤ sizeLine := by rw [← Paired.length rel]; exact sz_of (Nat.le_of_lt hl)
  have hl' : (putK kvs k v).length ≤ sizeLine := by have := length_putK kvs k v; exact sz_of (by omega)
  refine wpAny_setItem_heap (hsz := hz) hu.in1 (hk.is I) dd fun h' dd' hs => ?_
  obtain ⟨o', I', g'⟩ := n_new (t' := s.toks + (nk X).draws k) I g dd' hs (ent_put rel hk.rp hk.dep rv) hl'
  exact h _ o' I' g'
end

/-! ### the rules -/
section
variable {X : Cx} {o i e f value : Expr} {pos pos' apos cpos : Pos} {td ty tv tz : TE}
def tDNewN (w : World) : TE := fun _ H Q => ∀ p ob, H p = none → DctO w (upd H p (xO p ob)) p ob [] → Q (.ref p) (upd H p (xO p ob))
theorem pe_dnewN : PE X (.Dict [] [] pos) (tDNewN X.w) := ⟨fun pins s σ H Q I h => by
  have hb : (s.heap.objs.size == sysModules) = false := by
    have := I.big
    rw [beq_eq_false_iff_ne]
    exact Nat.ne_of_gt this
  have hn : H s.heap.objs.size = none := I.hok.fresh (Nat.le_refl _)
  have ho : (s.heap.push { cls := .type "dict", data := .dict #[] }).get? s.heap.objs.size = some { cls := .type "dict", data := .dict #[] } := Heap.get?_push_size _ rfl
  refine wpAny_Dict_empty ⟨.ref s.heap.objs.size, _, I.laid (a := s.heap.objs.size) (o := xO s.heap.objs.size { cls := .type "dict", data := .dict #[] }) (t' := s.toks) (fun _ _ q => Heap.get?_push_of_some _ q) (Nat.le_refl _)
    ⟨ho, ⟨_, ho⟩, fun h1 h2 e k => k _ e⟩, rfl, h _ _ hn ?_⟩
  exact ⟨upd_same, hb, ⟨rfl, rfl, rfl⟩, Nat.zero_le _, #[], 0, rfl, [], rfl, List.nodup_nil, .nil⟩⟩
/-- d[y] -/
def rGetN (w : World) : R2 := fun x y H Q => ∃ d kvs k v, x = .ref d ∧ Dct w H d kvs ∧ KeyAt H y k ∧ valV kvs k = some v ∧ Q v H
theorem pe_dgetN (hu : Room9 X.A) (ho : PE X o td) (hi : PE X i ty) (hs : NoSl i := by exact fun _ _ => rfl) : PE X (.Subscript o i pos) (tOp (rGetN X.w) td ty) := by
  refine ⟨fun pins s σ H Q I h => ?_⟩
  refine subD_of PySem.F.slot_dict_getitem.lookup hs (thn (ho.run pins s σ H _ I h) fun u s1 ⟨x, H1, I1, rx, q1⟩ => thn (hi.run pins s1 σ H1 _ I1 q1) fun iv s2 ⟨y, H2, I2, ry, d, kvs, k, v, ex, g, hk, hv, q2⟩ => ?_)
  subst ex
  obtain rfl : u = Value.ref d := rx
  refine ⟨?_, n_getItem hu I2 g hk hv ry fun w' s3 I3 rw' => ⟨v, H2, I3, rw', q2⟩⟩
  obtain ⟨ob, g⟩ := g
  obtain ⟨xs, dd, _⟩ := g.ofH I2
  exact dd.typeIs
/-- y in d -/
def rInN (w : World) (neg : Bool) : R2 := fun y x H Q => ∃ d kvs k, x = .ref d ∧ Dct w H d kvs ∧ KeyAt H y k ∧ Q (.bl (if neg then !(valV kvs k).isSome else (valV kvs k).isSome)) H
theorem op_inN (hu : Room9 X.A) : OpR X (compareOp .In) (rInN X.w false) := by
  intro pins s σ H y x u v Q I ry rx h
  obtain ⟨d, kvs, k, rfl, g, hk, q⟩ := h
  cases rx
  exact n_in hu I g hk ry fun s' I' => ⟨.bl _, H, I', rfl, q⟩
theorem op_notinN (hu : Room9 X.A) : OpR X (compareOp .NotIn) (rInN X.w true) := by
  intro pins s σ H y x u v Q I ry rx h
  obtain ⟨d, kvs, k, rfl, g, hk, q⟩ := h
  cases rx
  exact n_notIn hu I g hk ry fun s' I' => ⟨.bl _, H, I', rfl, q⟩
/-- d[y] = v -/
def sDPutN (w : World) (td ty tv : TE) : TS := fun D σ H => tv σ H fun v H1 => td σ H1 fun x H2 => ty σ H2 fun y H3 => ∃ d kvs k, x = .ref d ∧ Dct w H3 d kvs ∧ KeyAt H3 y k ∧ kvs.length < 100000 ∧
  ∀ o', DctO w (upd H3 d (xO d o')) d o' (putK kvs k v) → D.nx σ (upd H3 d (xO d o'))
theorem ps_dputN (hu : Room9 X.A) (ho : PE X o td) (hi : PE X i ty) (hv : PE X value tv) (hs : swapsWith value (some (.Subscript o i pos')) pos.line X.env = pure false := by rfl) :
    PS X (.Assign [.Subscript o i pos'] value pos) (sDPutN X.w td ty tv) := by
  refine ⟨fun pins s σ H D I h => ?_⟩
  refine wpAny_Assign_Subscript (thn (hv.run pins s σ H _ I h) fun r s1 ⟨v, H1, I1, rv, q1⟩ => thn (ho.run pins s1 σ H1 _ I1 q1) fun u s2 ⟨x, H2, I2, rx, q2⟩ => thn (hi.run pins s2 σ H2 _ I2 q2) fun iv s3 ⟨y, H3, I3, ry, d, kvs, k, ex, g, hk, hl, q3⟩ => ?_) hs
  subst ex
  obtain rfl : u = Value.ref d := rx
  exact n_setItem hu I3 g hk hl ry rv fun s4 o' I4 g4 => ⟨σ, _, I4, q3 o' g4⟩
/-- d.setdefault(y, z) -/
def tSetDefN (w : World) (td : TE) (ta : TA) : TE := fun σ H Q => td σ H fun x H1 => ∃ d kvs0, x = .ref d ∧ Dct w H1 d kvs0 ∧ ta σ H1 fun vs H2 => ∃ y z kvs k, vs = [y, z] ∧ Dct w H2 d kvs ∧ KeyAt H2 y k ∧ kvs.length < 100000 ∧
  (∀ v, valV kvs k = some v → Q v H2) ∧ (valV kvs k = none → ∀ o', DctO w (upd H2 d (xO d o')) d o' (putK kvs k z) → Q z (upd H2 d (xO d o')))
theorem pe_setdefN {ta : TA} (hu : Room9 X.A) (ho : PE X o td) (ha : PA X [e, f] ta)
    (hbase : attributeBase o "setdefault" X.env (eval o X.env) = eval o X.env := by rfl)
    (hfew : ((backTo cpos (starEach [e, f] X.env)).all (fun x => !x.1) && (backToKw cpos (keywordEach [] X.env)).all (fun x => x.1.isSome)
      && decide ([e, f].length + ([] : List Keyword).length + (if ([] : List Keyword).isEmpty then 0 else 1) < 30)) = true := by rfl)
    (hline : (apos.endLine == cpos.line) = true := by rfl) (hs : starEach [e, f] X.env = (false, eval e X.env) :: starEach [f] X.env := by rfl) (hplain : (backTo cpos (starEach [f] X.env)).any (·.1) = false := by rfl) :
    PE X (.Call (.Attribute o "setdefault" apos) [e, f] [] cpos) (tSetDefN X.w td ta) := by
  refine ⟨fun pins s σ H Q I h => ?_⟩
  refine wpAny_Call_method_late hbase hfew hline rfl (thn (ho.run pins s σ H _ I h) fun v s1 ⟨x, H1, I1, r1, d, kvs0, ex, g0, q1⟩ => ?_)
  subst ex
  obtain rfl : v = Value.ref d := r1
  obtain ⟨ob, g0⟩ := g0
  have hob := g0.at I1
  refine ⟨"dict", "dict.setdefault", PySem.F.plainAttrs_dict, PySem.F.slot_dict_setdefault, PySem.F.type_dict_setdefault, ⟨ob, hob, g0.2.2.1.1⟩, fun a e => ?_, ?_⟩
  · cases e
    exact ⟨ob, hob, g0.2.2.1.2.1⟩
  have hA := ha.run cpos pins s1 σ H1 _ I1 q1
  rw [hs] at hA ⊢
  refine Calls.callWith_builtin (by show (false || (backTo cpos (starEach [f] X.env)).any (·.1)) = false; rw [hplain] <;> rfl) (Calls.evalArgs_plain ?_)
  refine thn hA fun us s2 ⟨vs, H2, I2, r2, y, z, kvs, k, ev, g, hk, hl, q1, q2⟩ => ?_
  subst ev
  obtain ⟨u, u', rfl, ry, rz⟩ := vals2 r2
  obtain ⟨ob2, g⟩ := g
  obtain ⟨b, rfl⟩ := hk.ref
  cases (show u = Value.ref b from ry)
  obtain ⟨xs, dd, rel⟩ := g.ofH I2
  have hz : xs.length ≤ sizeLine := by rw [← Paired.length rel]; exact sz_of (Nat.le_of_lt hl)
  have hl' : (putK kvs k z).length ≤ sizeLine := by have := length_putK kvs k z; exact sz_of (by omega)
  have hval := ent_val rel k
  refine call_setdefault_heap (hsz := hz) hu.in1 (hk.is I2) g.2.1 dd (fun p hp => ?_) fun hn h' dd' hs => ?_
  · rw [hp] at hval
    cases hq : valV kvs k with
    | none => rw [hq] at hval; exact hval.elim
    | some v =>
      rw [hq] at hval
      exact ⟨v, H2, I2.tok _, hval, q1 v hq⟩
  · rw [hn] at hval
    have hq : valV kvs k = none := by
      cases hq : valV kvs k with
      | none => rfl
      | some v => rw [hq] at hval; exact hval.elim
    obtain ⟨o', I', g'⟩ := n_new (t' := s2.toks + (nk X).draws k) I2 g dd' hs (ent_put rel hk.rp hk.dep rz) hl'
    exact ⟨z, _, I', rz, q2 hq o' g'⟩
end
end R
/-! DL4: walks over such dicts -/
namespace R
open PySem PySem.Spec PyProof.Rows L2 Evl

section
variable {w : World} {H : Hp} {d : Addr} {o : Obj} {kvs : List (D × V)} {es : Array DictEntry} {ep : Nat}
theorem ent_get {l : List (D × V)} {m : List (D × Addr × Value)} (r : Paired (Ent H) l m) : ∀ {i : Nat} {p : D × V}, l[i]? = some p → ∃ q, m[i]? = some q ∧ Ent H p q := by
  induction r with
  | nil => intro i p h; simp at h
  | @cons a b as bs h t ih =>
    intro i p q
    cases i with
    | zero => simp at q; subst q; exact ⟨b, rfl, h⟩
    | succ i => simp at q; obtain ⟨z, h1, h2⟩ := ih q; exact ⟨z, by simpa using h1, h2⟩
theorem DctO.size (h : DctO w H d o kvs) (hd : o.data = .dict es ep) : es.size = kvs.length := by
  obtain ⟨h1, h2, h3, h4, es', ep', h5, xs, h6, h7, h8⟩ := h
  rw [hd] at h5
  cases h5
  rw [Paired.length h8, ← Array.length_toList, h6, List.length_map]
theorem DctO.ent (h : DctO w H d o kvs) (hd : o.data = .dict es ep) {i : Nat} (hi : i < es.size) : ∃ k v q, kvs[i]? = some (k, v) ∧ es[i].key = .ref q ∧ Rp H (.ref q) k ∧ k.depth ≤ 8 ∧ RelV v es[i].val := by
  have hs := h.size hd
  obtain ⟨h1, h2, h3, h4, es', ep', h5, xs, h6, h7, h8⟩ := h
  rw [hd] at h5
  cases h5
  obtain ⟨⟨k, v⟩, hkv⟩ : ∃ p, kvs[i]? = some p := ⟨kvs[i]'(by omega), List.getElem?_eq_getElem _⟩
  obtain ⟨x, hx, q1, q2, q3, q4⟩ := ent_get h8 hkv
  have he : es[i]? = some ⟨x.1.hash w, .ref x.2.1, x.2.2⟩ := by rw [← Array.getElem?_toList, h6, List.getElem?_map, hx]; rfl
  have he' : es[i] = ⟨x.1.hash w, .ref x.2.1, x.2.2⟩ := by
    rw [Array.getElem?_eq_getElem hi] at he
    exact Option.some.inj he
  exact ⟨k, v, x.2.1, hkv, by rw [he'], q2, q3, by rw [he']; exact q4⟩
theorem DctO.raw {X : Cx} {pins : List (Addr × Obj)} {σ : L2.St} {s : Shared} (I : Inv X pins σ H s) (h : DctO X.w H d o kvs) (hd : o.data = .dict es ep) : s.heap.DictRaw d es ep := ⟨o, h.at I, h.2.2.1, hd⟩
end

/-- the keys | the values | the pairs, each a new tuple -/
def ItkN (w : World) (d : Addr) (o : Obj) (kvs : List (D × V)) : It :=
  ⟨fun i H => DctO w H d o kvs ∧ i < kvs.length, fun i H x H' => H' = H ∧ ∃ k v, kvs[i]? = some (k, v) ∧ KeyAt H x k, fun i H => DctO w H d o kvs ∧ kvs.length ≤ i⟩
def ItvN (w : World) (d : Addr) (o : Obj) (kvs : List (D × V)) : It :=
  ⟨fun i H => DctO w H d o kvs ∧ i < kvs.length, fun i H x H' => H' = H ∧ ∃ k, kvs[i]? = some (k, x), fun i H => DctO w H d o kvs ∧ kvs.length ≤ i⟩
def ItiN (w : World) (d : Addr) (o : Obj) (kvs : List (D × V)) : It :=
  ⟨fun i H => DctO w H d o kvs ∧ i < kvs.length, fun i H x H' => ∃ T k v q, kvs[i]? = some (k, v) ∧ x = .ref T ∧ H T = none ∧ KeyAt H q k ∧ H' = upd H T (.tup [q, v]), fun i H => DctO w H d o kvs ∧ kvs.length ≤ i⟩
section
variable {P : Program} {w : World} {K : PySem.W.Frag} {tg : Expr} {d : Addr} {o : Obj} {es : Array DictEntry} {ep : Nat} {kvs : List (D × V)}
theorem key_tup {H : Hp} {q : Addr} {k : D} (h : Rp H (.ref q) k) : ∃ ks, k = .tup ks := by cases h; exact ⟨_, rfl⟩
theorem turn_keysN (it : Addr) (hod : o.data = .dict es ep) : Turn P w K tg (ItkN w d o kvs) [it] it (fun i h => h.IsKeyIter it d i kvs.length ep) where
  mem := by simp
  obj := fun i h st b hb => by
    have e : b = it := by simpa using hb
    subst e
    obtain ⟨oi, e, c, dd⟩ := st
    exact ⟨oi, e, fun v z => by rw [dd] at z; cases z⟩
  keep := fun i h h' st k => st.at fun oi e => k it (by simp) oi e
  item := by
    intro X hP hw hK hc i pins s σ H E I hf st hg
    subst hP hw hK
    obtain ⟨hd, hi⟩ := hg
    obtain ⟨f0, f1, f2, f3, f4, f5⟩ := hf it (by simp)
    have hs := hd.size hod
    rw [← hs] at st hi
    obtain ⟨k, v, q, hkv, hkey, hr, hdp, _⟩ := hd.ent hod hi
    refine wpAny_pyNext_keys_item_raw st (hd.raw I hod) hi fun h' st' sb => ?_
    have I1 : Inv X pins σ H { s with heap := h' } := I.turned (t' := s.toks) (fun b ob hb e => (sb.2 b hb).trans e) f0 f1 f3 f4 f5
    obtain ⟨oi, e, c, dd⟩ := id st'
    refine ⟨es[i].key, rfl, go_of (s := { s with heap := h' }) e c dd (by decide) ⟨.ref q, H, I1, hkey, ⟨rfl, k, v, hkv, hr, key_tup hr, hdp⟩, ?_, fun b hb => (hf b hb).1⟩⟩
    rw [← hs]
    exact st'
  done := by
    intro X hP hw hK hc i pins s σ H E I hf st hg
    subst hP hw hK
    obtain ⟨hd, hi⟩ := hg
    obtain ⟨f0, f1, f2, f3, f4, f5⟩ := hf it (by simp)
    have hs := hd.size hod
    rw [← hs] at st hi
    exact wpAny_pyNext_keys_end_raw (I.ok.hd hc) st (hd.raw I hod) hi fun h' eb => ⟨rfl, I.turned (t' := s.toks) (fun b ob hb e => eb b ob hb e) f0 f1 f3 f4 f5⟩
  self := fun A i s Q E st h => wpAny_pyIter_keyiter st h
theorem turn_valsN (it : Addr) (hod : o.data = .dict es ep) : Turn P w K tg (ItvN w d o kvs) [it] it (fun i h => h.IsValIter it d i kvs.length ep) where
  mem := by simp
  obj := fun i h st b hb => by
    have e : b = it := by simpa using hb
    subst e
    obtain ⟨oi, e, c, dd⟩ := st
    exact ⟨oi, e, fun v z => by rw [dd] at z; cases z⟩
  keep := fun i h h' st k => st.at fun oi e => k it (by simp) oi e
  item := by
    intro X hP hw hK hc i pins s σ H E I hf st hg
    subst hP hw hK
    obtain ⟨hd, hi⟩ := hg
    obtain ⟨f0, f1, f2, f3, f4, f5⟩ := hf it (by simp)
    have hs := hd.size hod
    rw [← hs] at st hi
    obtain ⟨k, v, q, hkv, hkey, hr, hdp, hval⟩ := hd.ent hod hi
    refine wpAny_pyNext_values_item_raw st (hd.raw I hod) hi fun h' st' sb => ?_
    have I1 : Inv X pins σ H { s with heap := h' } := I.turned (t' := s.toks) (fun b ob hb e => (sb.2 b hb).trans e) f0 f1 f3 f4 f5
    obtain ⟨oi, e, c, dd⟩ := id st'
    refine ⟨es[i].val, rfl, go_of (s := { s with heap := h' }) e c dd (by decide) ⟨v, H, I1, hval, ⟨rfl, k, hkv⟩, ?_, fun b hb => (hf b hb).1⟩⟩
    rw [← hs]
    exact st'
  done := by
    intro X hP hw hK hc i pins s σ H E I hf st hg
    subst hP hw hK
    obtain ⟨hd, hi⟩ := hg
    obtain ⟨f0, f1, f2, f3, f4, f5⟩ := hf it (by simp)
    have hs := hd.size hod
    rw [← hs] at st hi
    exact wpAny_pyNext_values_end_raw (I.ok.hd hc) st (hd.raw I hod) hi fun h' eb => ⟨rfl, I.turned (t' := s.toks) (fun b ob hb e => eb b ob hb e) f0 f1 f3 f4 f5⟩
  self := fun A i s Q E st h => wpAny_pyIter_valiter st h
theorem turn_itemsN {elts : List Expr} {kk : Nat} {tpos : Pos} (it : Addr) (hod : o.data = .dict es ep) :
    Turn P w K (.Tuple elts kk tpos) (ItiN w d o kvs) [it] it (fun i h => ∃ ok ov, IsItemIter h it d i kvs.length ep ok ov) where
  mem := by simp
  obj := fun i h st b hb => by
    have e : b = it := by simpa using hb
    subst e
    obtain ⟨ok, ov, e⟩ := st
    exact ⟨_, e, fun v z => nomatch z⟩
  keep := fun i h h' st k => let ⟨ok, ov, e⟩ := st; ⟨ok, ov, k it (by simp) _ e⟩
  item := by
    intro X hP hw hK hc i pins s σ H E I hf st hg
    subst hP hw hK
    obtain ⟨hd, hi⟩ := hg
    have hs := hd.size hod
    obtain ⟨ok, ov, he⟩ := st
    rw [← hs] at he hi
    obtain ⟨k, v, q, hkv, hkey, hr, hdp, hval⟩ := hd.ent hod hi
    have hlt : it < s.heap.objs.size := Heap.lt_size he
    refine wpAny_pyNext_items_item_raw he (hd.raw I hod) hi fun h' ho hT hz hk => ?_
    refine ⟨_, rfl, wpAny_letOwnedTupleGo_items (s := { s with heap := h' }) ho fun h'' he' sb => ?_⟩
    have hT2 : h''.get? s.heap.objs.size = some { cls := .type "tuple", data := .seq #[es[i].key, es[i].val] } := (sb.2 _ (Nat.ne_of_gt hlt)).trans hT
    have new : ObjOk X.prog X.w (upd H s.heap.objs.size (.tup [.ref q, v])) h'' s.heap.objs.size (.tup [.ref q, v]) :=
      ⟨by show 2 ≤ sizeLine; decide, [es[i].key, es[i].val], .cons hkey (.cons hval .nil), ⟨_, hT2, rfl, _, rfl⟩⟩
    have I1 : Inv X pins σ (upd H s.heap.objs.size (.tup [.ref q, v])) { s with heap := h'' } :=
      I.turnedNew (t' := s.toks) (ch := [it]) (fun b ob hb e => (sb.2 b (by simpa using hb)).trans (hk b ob (by simpa using hb) e)) hf (Nat.le_refl _) new
    refine ⟨.ref s.heap.objs.size, _, I1, rfl, ⟨_, k, v, .ref q, hkv, rfl, I.hok.fresh (Nat.le_refl _), ⟨hr, key_tup hr, hdp⟩, rfl⟩, ⟨es[i].key, es[i].val, ?_⟩, fun b hb => ?_⟩
    · rw [← hs]; exact he'
    · have e : b = it := by simpa using hb
      rw [e, upd_ne (Nat.ne_of_lt hlt)]
      exact (hf it (by simp)).1
  done := by
    intro X hP hw hK hc i pins s σ H E I hf st hg
    subst hP hw hK
    obtain ⟨hd, hi⟩ := hg
    obtain ⟨f0, f1, f2, f3, f4, f5⟩ := hf it (by simp)
    have hs := hd.size hod
    obtain ⟨ok, ov, he⟩ := st
    rw [← hs] at he hi
    exact wpAny_pyNext_items_end_raw (I.ok.hd hc) he (hd.raw I hod) hi fun h' eb => ⟨rfl, I.turned (t' := s.toks) (fun b ob hb e => eb b ob hb e) f0 f1 f3 f4 f5⟩
  self := fun A i s Q E st h => let ⟨_, _, e⟩ := st; wpAny_pyIter_itemiter e h
end

def iKeysN (w : World) (td : TE) : TI := fun σ H R => td σ H fun x H1 => ∃ d o kvs, x = .ref d ∧ DctO w H1 d o kvs ∧ R (ItkN w d o kvs) H1
def iValsN (w : World) (td : TE) : TI := fun σ H R => td σ H fun x H1 => ∃ d o kvs, x = .ref d ∧ DctO w H1 d o kvs ∧ R (ItvN w d o kvs) H1
def iItemsN (w : World) (td : TE) : TI := fun σ H R => td σ H fun x H1 => ∃ d o kvs, x = .ref d ∧ DctO w H1 d o kvs ∧ R (ItiN w d o kvs) H1
section
variable {X : Cx} {tg e : Expr} {td : TE} {apos cpos : Pos}
theorem pi_keysN (he : PE X e td) : PI X tg e (iKeysN X.w td) := by
  refine ⟨fun pins s σ H R I h => ?_⟩
  refine thn (he.run pins s σ H _ I h) fun u s1 ⟨x, H1, I1, rx, d, o, kvs, ex, hd, q⟩ => ?_
  subst ex
  obtain rfl : u = Value.ref d := rx
  have ho := hd.at I1
  obtain ⟨_, hm, hx, _, es, ep, hdt, _⟩ := id hd
  have hs := hd.size hdt
  refine iter_keys hm ho hx hdt (pi_one (tk := s1.toks) I1 _ (turn_keysN _ hdt) ⟨_, Heap.get?_push_size _ rfl, rfl, ?_⟩ q)
  rw [hs] <;> rfl
theorem pi_valuesN (he : PE X e td) (hbase : attributeBase e "values" X.env (eval e X.env) = eval e X.env := by rfl) (hline : (apos.endLine == cpos.line) = true := by rfl) : PI X tg (.Call (.Attribute e "values" apos) [] [] cpos) (iValsN X.w td) := by
  refine ⟨fun pins s σ H R I h => ?_⟩
  refine wpAny_Call_method (T := "dict") (id := "dict.values") hbase rfl hline F.plainAttrs_dict F.slot_dict_values F.type_dict_values (thn (he.run pins s σ H _ I h) fun u s1 ⟨x, H1, I1, rx, d, o, kvs, ex, hd, q⟩ => ?_)
  subst ex
  obtain rfl : u = Value.ref d := rx
  have ho := hd.at I1
  obtain ⟨_, hm, hx, _, es, ep, hdt, _⟩ := id hd
  have hs := hd.size hdt
  have hT : s1.TypeIs (.ref d) "dict" := ⟨o, ho, hx.1⟩
  refine ⟨hT, fun a e => ?_, ?_⟩
  · cases e
    exact ⟨o, ho, hx.2.1⟩
  have I2 : Inv X pins σ H1 { s1 with heap := s1.heap.push { cls := .type "dict_values", data := .fields #[.ref d] } } := I1.kept (t' := s1.toks) fun b ob q => Heap.get?_push_of_some _ q
  have fin : wpAny (model X.prog X.w) X.A (pyIter (.ref s1.heap.objs.size)) (PIE X pins σ tg R) X.xe { s1 with heap := s1.heap.push { cls := .type "dict_values", data := .fields #[.ref d] } } := by
    refine wpAny_pyIter_values_raw (d := d) ⟨_, Heap.get?_push_size _ rfl, rfl, rfl⟩ ((hd.raw I1 hdt).at fun o' e => Heap.get?_push_of_some _ e) (pi_one (tk := s1.toks) I2 _ (turn_valsN _ hdt) ⟨_, Heap.get?_push_size _ rfl, rfl, ?_⟩ q)
    rw [hs] <;> rfl
  show wpAny _ _ (callWith cpos (.builtin "dict.values") [.ref d] [] []) _ X.xe s1
  exact method_meetsIn F.slot_dict_values F.entry_dict_values rfl (PySem.evalArgs_none ⟨rfl, hT, F.args_dict_values_1 _, _, meets_dict_values_raw d hm, ⟨⟨es, ep, hd.raw I1 hdt⟩, fin⟩⟩)
theorem pi_itemsN {elts : List Expr} {kk : Nat} {tpos : Pos} (he : PE X e td) (hbase : attributeBase e "items" X.env (eval e X.env) = eval e X.env := by rfl) (hline : (apos.endLine == cpos.line) = true := by rfl) :
    PI X (.Tuple elts kk tpos) (.Call (.Attribute e "items" apos) [] [] cpos) (iItemsN X.w td) := by
  refine ⟨fun pins s σ H R I h => ?_⟩
  refine wpAny_Call_method (T := "dict") (id := "dict.items") hbase rfl hline F.plainAttrs_dict F.slot_dict_items F.type_dict_items (thn (he.run pins s σ H _ I h) fun u s1 ⟨x, H1, I1, rx, d, o, kvs, ex, hd, q⟩ => ?_)
  subst ex
  obtain rfl : u = Value.ref d := rx
  have ho := hd.at I1
  obtain ⟨_, hm, hx, _, es, ep, hdt, _⟩ := id hd
  have hs := hd.size hdt
  have hT : s1.TypeIs (.ref d) "dict" := ⟨o, ho, hx.1⟩
  refine ⟨hT, fun a e => ?_, ?_⟩
  · cases e
    exact ⟨o, ho, hx.2.1⟩
  have I2 : Inv X pins σ H1 { s1 with heap := s1.heap.push { cls := .type "dict_items", data := .fields #[.ref d] } } := I1.kept (t' := s1.toks) fun b ob q => Heap.get?_push_of_some _ q
  have fin : wpAny (model X.prog X.w) X.A (pyIter (.ref s1.heap.objs.size)) (PIE X pins σ (.Tuple elts kk tpos) R) X.xe { s1 with heap := s1.heap.push { cls := .type "dict_items", data := .fields #[.ref d] } } := by
    refine wpAny_pyIter_items_raw (d := d) ⟨_, Heap.get?_push_size _ rfl, rfl, rfl⟩ ((hd.raw I1 hdt).at fun o' e => Heap.get?_push_of_some _ e) (pi_one (tk := s1.toks) I2 _ (turn_itemsN _ hdt) ⟨.none, .none, ?_⟩ q)
    rw [← hs]
    exact Heap.get?_push_size _ rfl
  show wpAny _ _ (callWith cpos (.builtin "dict.items") [.ref d] [] []) _ X.xe s1
  exact method_meetsIn F.slot_dict_items F.entry_dict_items rfl (PySem.evalArgs_none ⟨rfl, hT, F.args_dict_items_1 _, _, meets_dict_items_raw d hm, ⟨⟨es, ep, hd.raw I1 hdt⟩, fin⟩⟩)
end

/-! ### the loops' forms -/
section
variable {w : World} {d : Addr} {o : Obj} {kvs : List (D × V)} {g : TG} {tb : TS} {E : Ends} {σ : L2.St} {H : Hp}
theorem for_keysN (Pv : Nat → L2.St → Hp → Prop) (h0 : Pv 0 σ H) (hl : ∀ i σ H, i ≤ kvs.length → Pv i σ H → DctO w H d o kvs)
    (hs : ∀ i x k v σ H, kvs[i]? = some (k, v) → KeyAt H x k → Pv i σ H → g x σ H fun σ2 H2 => tb { E with nx := Pv (i + 1), ct := Pv (i + 1), bk := E.nx } σ2 H2) (hd : ∀ σ H, Pv kvs.length σ H → E.nx σ H) :
    ∃ W : Nat → Nat → L2.St → Hp → Prop, (∃ m, W 0 m σ H) ∧ ∀ i m σ H, W i m σ H →
      ((ItkN w d o kvs).stop i H ∧ E.nx σ H) ∨ ((ItkN w d o kvs).go i H ∧ ∃ N : L2.St → Hp → Prop, (∀ σ' H', N σ' H' → ∃ m', m' < m ∧ W (i + 1) m' σ' H') ∧ ∀ x H', (ItkN w d o kvs).yld i H x H' → g x σ H' fun σ2 H2 => tb { E with nx := N, ct := N, bk := E.nx } σ2 H2) := by
  refine ⟨fun i m σ H => m = kvs.length - i ∧ i ≤ kvs.length ∧ Pv i σ H, ⟨kvs.length, by simp, Nat.zero_le _, h0⟩, ?_⟩
  rintro i m σ H ⟨rfl, hi, p⟩
  have q := hl i σ H hi p
  by_cases hlt : i < kvs.length
  · refine .inr ⟨⟨q, hlt⟩, Pv (i + 1), fun σ' H' p' => ⟨kvs.length - (i + 1), by omega, rfl, hlt, p'⟩, fun x H' y => ?_⟩
    obtain ⟨rfl, k, v, hkv, hk⟩ := y
    exact hs i x k v σ _ hkv hk p
  · have e : i = kvs.length := by omega
    subst e
    exact .inl ⟨⟨q, Nat.le_refl _⟩, hd σ H p⟩
theorem for_valsN (Pv : Nat → L2.St → Hp → Prop) (h0 : Pv 0 σ H) (hl : ∀ i σ H, i ≤ kvs.length → Pv i σ H → DctO w H d o kvs)
    (hs : ∀ i k v σ H, kvs[i]? = some (k, v) → Pv i σ H → g v σ H fun σ2 H2 => tb { E with nx := Pv (i + 1), ct := Pv (i + 1), bk := E.nx } σ2 H2) (hd : ∀ σ H, Pv kvs.length σ H → E.nx σ H) :
    ∃ W : Nat → Nat → L2.St → Hp → Prop, (∃ m, W 0 m σ H) ∧ ∀ i m σ H, W i m σ H →
      ((ItvN w d o kvs).stop i H ∧ E.nx σ H) ∨ ((ItvN w d o kvs).go i H ∧ ∃ N : L2.St → Hp → Prop, (∀ σ' H', N σ' H' → ∃ m', m' < m ∧ W (i + 1) m' σ' H') ∧ ∀ x H', (ItvN w d o kvs).yld i H x H' → g x σ H' fun σ2 H2 => tb { E with nx := N, ct := N, bk := E.nx } σ2 H2) := by
  refine ⟨fun i m σ H => m = kvs.length - i ∧ i ≤ kvs.length ∧ Pv i σ H, ⟨kvs.length, by simp, Nat.zero_le _, h0⟩, ?_⟩
  rintro i m σ H ⟨rfl, hi, p⟩
  have q := hl i σ H hi p
  by_cases hlt : i < kvs.length
  · refine .inr ⟨⟨q, hlt⟩, Pv (i + 1), fun σ' H' p' => ⟨kvs.length - (i + 1), by omega, rfl, hlt, p'⟩, fun x H' y => ?_⟩
    obtain ⟨rfl, k, hkv⟩ := y
    exact hs i k x σ _ hkv p
  · have e : i = kvs.length := by omega
    subst e
    exact .inl ⟨⟨q, Nat.le_refl _⟩, hd σ H p⟩
theorem for_itemsN (Pv : Nat → L2.St → Hp → Prop) (h0 : Pv 0 σ H) (hl : ∀ i σ H, i ≤ kvs.length → Pv i σ H → DctO w H d o kvs)
    (hs : ∀ i T k v q σ H, kvs[i]? = some (k, v) → H T = none → KeyAt H q k → Pv i σ H → g (.ref T) σ (upd H T (.tup [q, v])) fun σ2 H2 => tb { E with nx := Pv (i + 1), ct := Pv (i + 1), bk := E.nx } σ2 H2) (hd : ∀ σ H, Pv kvs.length σ H → E.nx σ H) :
    ∃ W : Nat → Nat → L2.St → Hp → Prop, (∃ m, W 0 m σ H) ∧ ∀ i m σ H, W i m σ H →
      ((ItiN w d o kvs).stop i H ∧ E.nx σ H) ∨ ((ItiN w d o kvs).go i H ∧ ∃ N : L2.St → Hp → Prop, (∀ σ' H', N σ' H' → ∃ m', m' < m ∧ W (i + 1) m' σ' H') ∧ ∀ x H', (ItiN w d o kvs).yld i H x H' → g x σ H' fun σ2 H2 => tb { E with nx := N, ct := N, bk := E.nx } σ2 H2) := by
  refine ⟨fun i m σ H => m = kvs.length - i ∧ i ≤ kvs.length ∧ Pv i σ H, ⟨kvs.length, by simp, Nat.zero_le _, h0⟩, ?_⟩
  rintro i m σ H ⟨rfl, hi, p⟩
  have q := hl i σ H hi p
  by_cases hlt : i < kvs.length
  · refine .inr ⟨⟨q, hlt⟩, Pv (i + 1), fun σ' H' p' => ⟨kvs.length - (i + 1), by omega, rfl, hlt, p'⟩, fun x H' y => ?_⟩
    obtain ⟨T, k, v, z, hkv, rfl, hT, hk, rfl⟩ := y
    exact hs i T k v z σ _ hkv hT hk p
  · have e : i = kvs.length := by omega
    subst e
    exact .inl ⟨⟨q, Nat.le_refl _⟩, hd σ H p⟩
end
end R
/-! DL5: sorted() of lists of tuples, of dicts; of pairs by their firsts -/
namespace R
open PySem PySem.W PySem.Spec PyProof.Rows L2 Evl

def leD (a b : D) : Bool := !dataLt b.data a.data
def sortD (ds : List D) : List D := ds.mergeSort leD
/-- what may be sorted: tuples with an item, alike -/
structure SortOk (ds : List D) : Prop where
  alike : AllAlike (ds.map NestedKey.data)
  tup : ∀ d ∈ ds, ∃ x r, d = .tup (x :: r)
  dep : ∀ d ∈ ds, d.depth ≤ 8
theorem SortOk.able {ds : List D} (h : SortOk ds) : Sortable (ds.map NestedKey.data) := .inl fun d hd => by
  obtain ⟨e, he, rfl⟩ := List.mem_map.mp hd
  obtain ⟨x, r, rfl⟩ := h.tup e he
  exact ⟨x.data, NestedKey.datas r, by simp [NestedKey.data, NestedKey.datas]⟩
def pr (a b : D) : D := .tup [a, b]
structure FstOk (ps : List (D × D)) : Prop where
  alike : AllAlike (ps.map fun p => p.1.data)
  tup : ∀ p ∈ ps, ∃ r, p.1 = .tup r
  one : ∀ p ∈ ps, ∀ q ∈ ps, p.1 = q.1 → p = q
  snd : ∀ p ∈ ps, p.2 = .none ∨ ∃ i, p.2 = .num i
  dep : ∀ p ∈ ps, p.1.depth ≤ 7
def leF (a b : D × D) : Bool := leD a.1 b.1

/-! ### values that stand for data -/
abbrev Sta (H : Hp) (u : Value) (d : D) : Prop := ∃ v, RelV v u ∧ Rp H v d
section
variable {H : Hp}
theorem sta_of : ∀ {xs : List V} {us : List Value} {ds : List D}, Vals xs us → RpAll H xs ds → EachIs (Sta H) us ds
  | _, _, _, .nil, .nil => .nil
  | _, _, _, .cons r t, .cons r' t' => .cons ⟨_, r, r'⟩ (sta_of t t')
theorem of_sta : ∀ {us : List Value} {ds : List D}, EachIs (Sta H) us ds → ∃ xs, Vals xs us ∧ RpAll H xs ds
  | _, _, .nil => ⟨[], .nil, .nil⟩
  | _, _, .cons ⟨v, r, r'⟩ t => let ⟨xs, h1, h2⟩ := of_sta t; ⟨v :: xs, .cons r h1, .cons r' h2⟩
end
section
variable {X : Cx} {pins : List (Addr × Obj)} {σ : L2.St} {H : Hp} {s : Shared}
theorem sta_reads (I : Inv X pins σ H s) {us : List Value} {ds : List D} (e : EachIs (Sta H) us ds) : EachIs (fun v d => ∃ as, Reads s.heap v (NestedKey.data d) as) us ds :=
  e.mono fun u d ⟨v, r, r'⟩ => Dp.reads I _ v u (Rp.dp r') r
theorem dataLe_leD : dataLe false NestedKey.data = leD := rfl

/-- the heap behind sorted: a new list of the sorted -/
theorem sorted_end {h' : Heap} {q : Addr} {c : Nat} {out : List Value} {ds' : List D} {Q : VK} {tk : Nat} (I : Inv X pins σ H s) (k : ∀ b o, s.heap.get? b = some o → h'.get? b = some o) (hq : s.heap.objs.size ≤ q) (hat : h'.get? q = some (seqObj "list" out.toArray c))
    (e : EachIs (Sta H) out ds') (hl : ds'.length ≤ 100000) (h : ∀ q H', H q = none → Ex H H' → LstD H' q ds' → Q (.ref q) H') : EP X pins σ Q (.ref q) { s with heap := h', toks := tk } := by
  obtain ⟨xs, h1, h2⟩ := of_sta e
  have hn : H q = none := I.hok.fresh hq
  have hz : xs.length ≤ sizeLine := sz_of (by rw [h2.length]; exact hl)
  refine ⟨.ref q, upd H q (.lst xs), I.laid (t' := tk) k hq (show ObjOk X.prog X.w _ _ _ (.lst xs) from ⟨hz, out, c, h1, hat⟩), rfl, h q _ hn (Ex.new hn) ⟨xs, upd_same, h2.ex (Ex.new hn)⟩⟩

/-- sorted(xs), xs a list of data -/
theorem call_sortedL (hu : Room9 X.A) : CallR X (.builtin "sorted") (fun vs H Q => ∃ p ds, vs = [.ref p] ∧ LstD H p ds ∧ SortOk ds ∧ ds.length ≤ 100000 ∧ ∀ q H', H q = none → Ex H H' → LstD H' q (sortD ds) → Q (.ref q) H') := by
  intro pins s σ H xs us Q I r h
  obtain ⟨p, ds, rfl, ⟨ys, hp, hr⟩, hok, hl, q⟩ := h
  obtain ⟨u, rfl, ru⟩ := vals1 r
  cases ru
  obtain ⟨its, rv, pl, hz⟩ := I.list (SqL.of hp)
  have e := sta_of rv hr
  refine sorted_data (R := Sta H) (enc := NestedKey.data) (bs := ds) pl.isList e (sta_reads I e) hok.alike hok.able (sz_of hl) (fun b hb => ?_) fun out ho eo => ?_
  · rw [depth_data]
    have := hok.dep b hb
    have hu' : X.A.units + 20 < cLine := hu
    omega
  · obtain ⟨c, hc⟩ := sortedAll_at s.heap its (List.toArray out)
    rw [dataLe_leD] at eo
    exact sorted_end (tk := s.toks) I (fun b o hb => sortedAll_old hb) (Nat.le_succ _) hc eo (by rw [List.length_mergeSort]; exact hl) q
/-- sorted(d), d a dict -/
theorem call_sortedN (hcalm : X.calm = true) (hu : Room9 X.A) : CallR X (.builtin "sorted") (fun vs H Q => ∃ d kvs, vs = [.ref d] ∧ Dct X.w H d kvs ∧ SortOk (kvs.map (·.1)) ∧ kvs.length ≤ 100000 ∧ ∀ q H', H q = none → Ex H H' → LstD H' q (sortD (kvs.map (·.1))) → Q (.ref q) H') := by
  intro pins s σ H xs us Q I r h
  obtain ⟨d, kvs, rfl, ⟨o, hd⟩, hok, hl, q⟩ := h
  obtain ⟨u, rfl, ru⟩ := vals1 r
  cases ru
  obtain ⟨_, hm, _, _, es, ep, hdt, _⟩ := id hd
  have hsz := hd.size hdt
  have hraw := hd.raw I hdt
  refine Calls.call_function_entry PyProof.Rows.kind_sorted PyProof.Rows.plain_sorted PyProof.Rows.entry_sorted (PyProof.Rows.args_sorted1 _) ?_
  unfold Builtin.«sorted»
  refine wpAny_bind (m := checkCount "sorted" 1 1 _) (wpAny_pure ?_)
  refine wpAny_bind (PySem.W.kdu_collect (A := X.A.in1) (KdlSrc.rawDict (es := es) (ep := ep) hm) (I.ok.hd hcalm) hraw (by rw [hsz]; exact sz_of hl) fun h' tk acc hk hacc => ?_)
  have hal : acc.toList.length = kvs.length := by rw [Array.length_toList, hacc.1, hsz]
  have I1 : Inv X pins σ H { s with heap := h', toks := tk } := I.kept hk
  -- the items
  have hE : ∀ (n : Nat), n ≤ kvs.length → ∃ ys, Vals ys (acc.toList.take n) ∧ RpAll H ys ((kvs.map (·.1)).take n) := by
    intro n
    induction n with
    | zero => intro _; exact ⟨[], by simpa using Paired.nil, by simpa using RpAll.nil⟩
    | succ n ih =>
      intro hn
      obtain ⟨ys, h1, h2⟩ := ih (by omega)
      have hna : n < acc.toList.length := by omega
      obtain ⟨hi, hv⟩ := hacc.2 n (acc.toList[n]) (by rw [← Array.getElem?_toList]; exact List.getElem?_eq_getElem hna)
      obtain ⟨k, v, b, hkv, hkey, hr, _, _⟩ := hd.ent hdt hi
      refine ⟨ys ++ [.ref b], ?_, ?_⟩
      · rw [List.take_add_one, List.getElem?_eq_getElem hna, hv, hkey]
        exact h1.append (.cons rfl .nil)
      · rw [List.take_add_one, List.getElem?_map, hkv]
        exact h2.append (.one hr)
  obtain ⟨ys, h1, h2⟩ := hE kvs.length (Nat.le_refl _)
  rw [← hal, List.take_length] at h1
  rw [List.take_of_length_le (by simp)] at h2
  have e := sta_of h1 h2
  have hdl : (kvs.map (·.1)).length = kvs.length := by simp
  have hL : acc.toList.length ≤ sizeLine := by rw [hal]; exact sz_of hl
  refine wpAny_bind (wpAny_newList ?_ hL)
  have hoL : (h'.push (seqObj "list" acc.toList.toArray 0)).get? h'.objs.size = some (seqObj "list" acc.toList.toArray 0) := Heap.get?_push_size _ rfl
  have hold : ∀ b o, h'.get? b = some o → (sortedHeap (h'.push (seqObj "list" acc.toList.toArray 0)) h'.objs.size acc.toList (List.toArray (sortVals (dataKind (sortingHeap (h'.push (seqObj "list" acc.toList.toArray 0)) h'.objs.size acc.toList) ((kvs.map (·.1)).map NestedKey.data)) false acc.toList acc.toList))).get? b = some o := fun b o hb => by
    rw [PyProof.Rows.sortedHeap_old (Nat.ne_of_lt (Heap.lt_size hb)) (by rw [size_push']; exact Nat.lt_succ_of_lt (Heap.lt_size hb))]
    exact Heap.get?_push_of_some _ hb
  have er0 : EachIs (fun v d => ∃ as, Reads h' v (NestedKey.data d) as) acc.toList (kvs.map (·.1)) := sta_reads I1 e
  have er : EachIs (fun v d => ∃ as, Reads (sortingHeap (h'.push (seqObj "list" acc.toList.toArray 0)) h'.objs.size acc.toList) v (NestedKey.data d) as) acc.toList (kvs.map (·.1)) :=
    er0.mono fun v d ⟨as, r⟩ => ⟨as, PyProof.Rows.Reads.keeps (fun b o hb => sortingHeap_old (Nat.ne_of_lt (Heap.lt_size hb)) (Heap.get?_push_of_some _ hb)) r⟩
  have S : SortsAt X.prog X.w X.A.in1.in1 { s with heap := sortingHeap (h'.push (seqObj "list" acc.toList.toArray 0)) h'.objs.size acc.toList, toks := tk } (dataKind (sortingHeap (h'.push (seqObj "list" acc.toList.toArray 0)) h'.objs.size acc.toList) ((kvs.map (·.1)).map NestedKey.data)) acc.toList :=
    SortsAt.data (s := { s with heap := sortingHeap (h'.push (seqObj "list" acc.toList.toArray 0)) h'.objs.size acc.toList, toks := tk }) (each_map (R := fun v d => ∃ as, Reads (sortingHeap (h'.push (seqObj "list" acc.toList.toArray 0)) h'.objs.size acc.toList) v d as) NestedKey.data er) hok.alike hok.able (fun d hd => by
      obtain ⟨z, hz, rfl⟩ := List.mem_map.mp hd
      rw [depth_data]
      have := hok.dep z hz
      have hu' : X.A.units + 20 < cLine := hu
      show X.A.units + 1 + 1 + z.depth < cLine
      omega)
  have eo := sortVals_data (h' := sortingHeap (h'.push (seqObj "list" acc.toList.toArray 0)) h'.objs.size acc.toList) (R := Sta H) (enc := NestedKey.data) false e er hok.alike
  rw [dataLe_leD] at eo
  refine wpAny_bind (wpAny_holding (wpAny_call_entry PyProof.Rows.slot_list_sort ⟨_, hoL, rfl⟩ PyProof.Rows.entry_list_sort
    (list_sort_vals (s := { s with heap := h'.push (seqObj "list" acc.toList.toArray 0), toks := tk }) hoL S hL ⟨_, rfl, ?_⟩) (PyProof.Rows.args_list_sort _)))
  obtain ⟨c, hc⟩ := PyProof.Rows.sortedHeap_at (vs := acc.toList) (out := List.toArray (sortVals (dataKind (sortingHeap (h'.push (seqObj "list" acc.toList.toArray 0)) h'.objs.size acc.toList) ((kvs.map (·.1)).map NestedKey.data)) false acc.toList acc.toList)) hoL
  refine wpAny_pure ⟨_, rfl, ?_⟩
  exact sorted_end (s := { s with heap := h', toks := tk }) (tk := tk) I1 hold (Nat.le_refl _) hc eo (by rw [List.length_mergeSort, hdl]; exact hl) q
end
end R
/-! DL6: sorted() of pairs whose firsts tell them apart -/
namespace R
open PySem PySem.W PySem.Spec PyProof.Rows L2 Evl

def prd (p : D × D) : PyData := .tuple [p.1.data, p.2.data]
theorem pr_data (p : D × D) : (pr p.1 p.2).data = prd p := by simp [pr, prd, NestedKey.data, NestedKey.datas]
theorem reads_two {h : Heap} {xs : List Value} {a b : PyData} {as : List Addr} (r : ReadsAll h xs [a, b] as) : ∃ v u as1 as2, xs = [v, u] ∧ Reads h v a as1 ∧ Reads h u b as2 := by
  cases r with
  | cons r1 t =>
    cases t with
    | cons r2 t =>
      cases t
      exact ⟨_, _, _, _, rfl, r1, r2⟩
noncomputable def fstKind (h : Heap) (ps : List (D × D)) : PyProof.Rows.KeyKind where
  toKeyOrd := listOrd itemOrd
  keyOf v := open Classical in if q : ∃ p, p ∈ ps ∧ ∃ as, Reads h v (prd p) as then some (keyToks q.choose.1.data) else none
  dflt := ([] : List (Int ⊕ List Nat))
theorem fst_same {h : Heap} {v : Value} {p q : D × D} {as bs : List Addr} (r : Reads h v (prd p) as) (r' : Reads h v (prd q) bs) (hal : alike p.1.data q.1.data = true) : p.1.data = q.1.data := by
  unfold prd at r r'
  cases r with
  | tuple h1 h2 h3 h4 =>
    cases r' with
    | tuple k1 k2 k3 k4 =>
      rw [h1] at k1
      cases k1
      rw [h3] at k3
      cases k3
      obtain ⟨v1, u1, a1, a2, e, r1, r2⟩ := reads_two h4
      obtain ⟨v2, u2, b1, b2, e', q1, q2⟩ := reads_two k4
      rw [e] at e'
      cases e'
      exact alike_unique _ _ _ _ _ hal r1 q1
theorem FstOk.al {ps : List (D × D)} (hk : FstOk ps) {p q : D × D} (hp : p ∈ ps) (hq : q ∈ ps) : PySem.W.alike p.1.data q.1.data = true :=
  hk.alike _ (List.mem_map.mpr ⟨p, hp, rfl⟩) _ (List.mem_map.mpr ⟨q, hq, rfl⟩)
theorem fstKind_some {h : Heap} {ps : List (D × D)} (hk : FstOk ps) {v : Value} {p : D × D} {as : List Addr} (hp : p ∈ ps) (r : Reads h v (prd p) as) : (fstKind h ps).keyOf v = some (keyToks p.1.data) := by
  have q : ∃ p, p ∈ ps ∧ ∃ as, Reads h v (prd p) as := ⟨p, hp, as, r⟩
  have e : (fstKind h ps).keyOf v = some (keyToks q.choose.1.data) := by
    show (open Classical in if q : ∃ p, p ∈ ps ∧ ∃ as, Reads h v (prd p) as then some (keyToks q.choose.1.data) else none) = _
    rw [dif_pos q]
  obtain ⟨h1, as', h2⟩ := q.choose_spec
  rw [e, fst_same h2 r (hk.al h1 hp)]
theorem fstKind_inv {h : Heap} {ps : List (D × D)} {v : Value} {k : List (Int ⊕ List Nat)} (e : (fstKind h ps).keyOf v = some k) : ∃ p as, p ∈ ps ∧ Reads h v (prd p) as ∧ k = keyToks p.1.data := by
  by_cases q : ∃ p, p ∈ ps ∧ ∃ as, Reads h v (prd p) as
  · have e' : (fstKind h ps).keyOf v = some (keyToks q.choose.1.data) := by
      show (open Classical in if q : ∃ p, p ∈ ps ∧ ∃ as, Reads h v (prd p) as then some (keyToks q.choose.1.data) else none) = _
      rw [dif_pos q]
    obtain ⟨h1, as', h2⟩ := q.choose_spec
    rw [e'] at e
    exact ⟨_, as', h1, h2, (Option.some.inj e).symm⟩
  · have e' : (fstKind h ps).keyOf v = none := by
      show (open Classical in if q : ∃ p, p ∈ ps ∧ ∃ as, Reads h v (prd p) as then some (keyToks q.choose.1.data) else none) = _
      rw [dif_neg q]
      rfl
    rw [e'] at e
    exact absurd e (by simp)
theorem dataType_tup {p : D × D} {r : List D} (e : p.1 = .tup r) : dataType p.1.data = Value.type "tuple" := by
  rw [e]
  simp [NestedKey.data, dataType]
theorem SortsAt.fst {prog : Program} {w : World} {A : Around} {s : Shared} {vs : List Value} {ps : List (D × D)} (e : EachIs (fun v p => ∃ as, Reads s.heap v (prd p) as) vs ps) (hk : FstOk ps) (hu : A.units + 8 < cLine) : SortsAt prog w A s (fstKind s.heap ps) vs := by
  refine ⟨fun v hv => ?_, tuples' false, ?_, fun h2 E Q hq => ?_⟩
  · obtain ⟨p, hp, as, r⟩ := e.left v hv
    exact ⟨_, fstKind_some hk hp r⟩
  · intro E x y a b Q ha hb hq
    obtain ⟨p, as, hp, ra, rfl⟩ := fstKind_inv ha
    obtain ⟨q, bs, hq', rb, rfl⟩ := fstKind_inv hb
    have hal := hk.al hp hq'
    have hd := hk.dep p hp
    have hroom : A.units + min p.1.data.depth q.1.data.depth < cLine := by
      rw [depth_data, depth_data]
      have := Nat.min_le_left p.1.depth q.1.depth
      omega
    have hq : Q (dataLt p.1.data q.1.data) s := hq
    unfold prd at ra rb
    cases ra with
    | @tuple la oa xs n _ _ h1 h2 h3 h4 =>
      cases rb with
      | @tuple lb ob ys m _ _ k1 k2 k3 k4 =>
        obtain ⟨v1, v2, a1, a2, e1, r1, r2⟩ := reads_two h4
        obtain ⟨w1, w2, b1, b2, e2, q1, q2⟩ := reads_two k4
        have s1 : xs.size = 2 := by rw [← Array.length_toList, e1]; rfl
        have s2 : ys.size = 2 := by rw [← Array.length_toList, e2]; rfl
        refine kat_lt h1 h3 k1 k3 ?_
        rw [e1, e2, s1, s2]
        refine kat_cons (eqAt_alike _ _ A s v1 w1 _ _ r1 q1 hal hroom prog w _ _ ?_)
        rw [eqv_dec]
        by_cases hpq : p.1 = q.1
        · have hpq' := hk.one p hp q hq' hpq
          subst hpq'
          rw [decide_eq_true rfl]
          have hself : alike p.2.data p.2.data = true ∧ p.2.data.depth = 0 := by
            rcases hk.snd p hp with z | ⟨i, z⟩
            · rw [z]; simp [NestedKey.data, alike, PyData.depth]
            · rw [z]; simp [NestedKey.data, alike, PyData.depth]
          refine kat_yes (kat_cons (eqAt_alike _ _ A s v2 w2 _ _ r2 q2 hself.1 (by rw [hself.2]; simp; omega) prog w _ _ ?_))
          rw [eqv_dec, decide_eq_true rfl]
          refine kat_yes (kat_nil ?_)
          have e0 : dataLt p.1.data p.1.data = false := lex_irrefl _
          rw [e0] at hq
          exact hq
        · rw [decide_eq_false hpq]
          refine kat_no (oneLt_alike (f := (false && (0 == 0))) (fun z => by simp at z) r1 q1 hal ?_ hroom hq)
          obtain ⟨r, er⟩ := hk.tup p hp
          rw [er]
          simp [NestedKey.data]
  · have e' : EachIs (fun v d => ∃ as, Reads s.heap v d as) vs (ps.map prd) := each_map prd e
    obtain ⟨fs, t1, t2, t3⟩ := each_katTups e' fun d hd => by
      obtain ⟨p, hp, rfl⟩ := List.mem_map.mp hd
      exact ⟨_, _, rfl⟩
    have hq' : Q (tuples' (Value.type "tuple" != Value.type "tuple")) s := by
      have e0 : (Value.type "tuple" != Value.type "tuple") = false := by decide
      rw [e0]
      exact hq
    refine kat_kind (T := Value.type "tuple") t1 (by omega) (fun f hf => ?_) (beq_self_eq_true _) hq'
    obtain ⟨x, r, as, m1, m2⟩ := t3 f hf
    obtain ⟨p, hp, ep⟩ := List.mem_map.mp m1
    unfold prd at ep
    injection ep with ep
    injection ep with ep _
    obtain ⟨z, hz⟩ := hk.tup p hp
    rw [← dataType_tup hz, ep]
    exact looks_reads m2
section
variable {X : Cx}
/-- sorted(xs), xs a list of pairs that differ in their firsts -/
theorem call_sortedF (hu : Room9 X.A) : CallR X (.builtin "sorted") (fun vs H Q => ∃ p ps, vs = [.ref p] ∧ LstD H p (ps.map fun p => pr p.1 p.2) ∧ FstOk ps ∧ ps.length ≤ 100000 ∧
    ∀ q H', H q = none → Ex H H' → LstD H' q ((ps.mergeSort leF).map fun p => pr p.1 p.2) → Q (.ref q) H') := by
  intro pins s σ H xs us Q I r h
  obtain ⟨p, ps, rfl, ⟨ys, hp, hr⟩, hok, hl, q⟩ := h
  obtain ⟨u, rfl, ru⟩ := vals1 r
  cases ru
  obtain ⟨its, rv, pl, hz⟩ := I.list (SqL.of hp)
  have e := sta_of rv hr
  have er0 := sta_reads I e
  have er1 : EachIs (fun v p => ∃ as, Reads s.heap v (prd p) as) its ps := by
    refine (each_of_map (fun p : D × D => pr p.1 p.2) er0).mono fun v p ⟨as, r⟩ => ⟨as, ?_⟩
    rw [← pr_data]
    exact r
  have er : EachIs (fun v p => ∃ as, Reads (sortingHeap (copyHeap s.heap its) (s.heap.objs.size + 1) its) v (prd p) as) its ps :=
    er1.mono fun v d ⟨as, r⟩ => ⟨as, PyProof.Rows.Reads.keeps (fun _ _ => sorting_copy_old) r⟩
  have hlen : its.length = ps.length := er1.length
  have S : SortsAt X.prog X.w X.A.in1.in1 { s with heap := sortingHeap (copyHeap s.heap its) (s.heap.objs.size + 1) its } (fstKind (sortingHeap (copyHeap s.heap its) (s.heap.objs.size + 1) its) ps) its :=
    SortsAt.fst (s := { s with heap := sortingHeap (copyHeap s.heap its) (s.heap.objs.size + 1) its }) er hok (by
      have hu' : X.A.units + 20 < cLine := hu
      show X.A.units + 1 + 1 + 8 < cLine
      omega)
  refine sorted_vals pl.isList S (by rw [hlen]; exact sz_of hl) ?_
  obtain ⟨c, hc⟩ := sortedAll_at s.heap its (List.toArray (sortVals (fstKind (sortingHeap (copyHeap s.heap its) (s.heap.objs.size + 1) its) ps) false its its))
  have eo := sortVals_each (κ := fstKind (sortingHeap (copyHeap s.heap its) (s.heap.objs.size + 1) its) ps) (R := fun v p => Sta H v (pr p.1 p.2)) (rev := false) (ks := its) (vs := its) (bs := ps) (fun p => keyToks p.1.data) (each_of_map (fun p : D × D => pr p.1 p.2) e)
    ((each_mem er).mono fun v p ⟨⟨as, r⟩, hp⟩ => fstKind_some hok hp r)
  have eo' : EachIs (Sta H) (sortVals (fstKind (sortingHeap (copyHeap s.heap its) (s.heap.objs.size + 1) its) ps) false its its) ((ps.mergeSort leF).map fun p => pr p.1 p.2) :=
    each_map_gen eo
  exact sorted_end (tk := s.toks) I (fun b o hb => sortedAll_old hb) (Nat.le_succ _) hc eo' (by rw [List.length_map, List.length_mergeSort]; exact hl) q
where
  each_map_gen {H : Hp} : ∀ {vs : List Value} {bs : List (D × D)}, EachIs (fun v p => Sta H v (pr p.1 p.2)) vs bs → EachIs (Sta H) vs (bs.map fun p => pr p.1 p.2)
  | _, _, .nil => .nil
  | _, _, .cons h1 t => .cons h1 (each_map_gen t)
end
end R
/-! DL7: dict(pairs), {(): True}, == of such dicts -/
namespace R
open PySem PySem.W PySem.Spec PyProof.Rows L2 Evl

/-- a dict whose values are data -/
def DatO (w : World) (H : Hp) (d : Addr) (o : Obj) (ps : List (D × D)) : Prop := ∃ kvs, DctO w H d o kvs ∧ Paired (fun (p : D × V) (q : D × D) => p.1 = q.1 ∧ Rp H p.2 q.2) kvs ps
def Dat (w : World) (H : Hp) (d : Addr) (ps : List (D × D)) : Prop := ∃ o, DatO w H d o ps
abbrev PD (H : Hp) (p : D × V) (q : D × D) : Prop := p.1 = q.1 ∧ Rp H p.2 q.2
section
variable {w : World} {H H' : Hp} {d : Addr} {o : Obj} {ps : List (D × D)}
theorem pd_tk {l : List (D × V)} {m : List (D × D)} (k : Tk H H') (h : Paired (PD H) l m) : Paired (PD H') l m := Paired.mapP h fun _ _ q => ⟨q.1, Rp.tk k q.2⟩
theorem DatO.ex (e : Ex H H') (h : DatO w H d o ps) : DatO w H' d o ps := let ⟨kvs, h1, h2⟩ := h; ⟨kvs, h1.ex e, pd_tk (Tk.of e) h2⟩
theorem DatO.exb {b : Addr} (e : ExB b H H') (hb : d ≠ b) (h : DatO w H d o ps) : DatO w H' d o ps := let ⟨kvs, h1, h2⟩ := h; ⟨kvs, h1.exb e hb, pd_tk e.2 h2⟩
theorem Dat.ex (e : Ex H H') (h : Dat w H d ps) : Dat w H' d ps := let ⟨o, h⟩ := h; ⟨o, h.ex e⟩
theorem Dat.exb {b : Addr} (e : ExB b H H') (hb : d ≠ b) (h : Dat w H d ps) : Dat w H' d ps := let ⟨o, h⟩ := h; ⟨o, h.exb e hb⟩
theorem pd_len {l : List (D × V)} {m : List (D × D)} (h : Paired (PD H) l m) : l.length = m.length := Paired.length h
theorem pd_keys : ∀ {l : List (D × V)} {m : List (D × D)}, Paired (PD H) l m → l.map (·.1) = m.map (·.1)
  | _, _, .nil => rfl
  | _, _, .cons r t => by rw [List.map_cons, List.map_cons, r.1, pd_keys t]
theorem pd_get : ∀ {l : List (D × V)} {m : List (D × D)}, Paired (PD H) l m → ∀ {i : Nat} {p : D × V}, l[i]? = some p → ∃ q, m[i]? = some q ∧ PD H p q
  | _, _, .nil, i, p, q => by simp at q
  | _, _, .cons h t, 0, p, q => by simp at q; subst q; exact ⟨_, rfl, h⟩
  | _, _, .cons h t, i + 1, p, q => by simp at q; obtain ⟨z, h1, h2⟩ := pd_get t q; exact ⟨z, by simpa using h1, h2⟩
theorem pd_val {l : List (D × V)} {m : List (D × D)} (r : Paired (PD H) l m) (k : D) : (∀ v, valV l k = some v → ∃ e, m.lookup k = some e ∧ Rp H v e) ∧ (valV l k = none → m.lookup k = none) := by
  induction r with
  | nil => exact ⟨fun v h => by simp [valV_nil] at h, fun _ => rfl⟩
  | @cons p q ps qs h t ih =>
    obtain ⟨h1, h2⟩ := h
    obtain ⟨qk, qv⟩ := q
    have h1 : p.1 = qk := h1
    by_cases e : p.1 = k
    · have e1 : qk = k := h1 ▸ e
      rw [valV_pos e]
      refine ⟨fun v hv => ⟨qv, ?_, by cases hv; exact h2⟩, fun hv => by cases hv⟩
      rw [List.lookup_cons, e1]
      simp
    · have e1 : ¬ qk = k := fun z => e (h1.trans z)
      rw [valV_neg e]
      have e2 : (k == qk) = false := by rw [beq_eq_false_iff_ne]; exact fun z => e1 z.symm
      rw [List.lookup_cons, e2]
      exact ih
theorem pd_map {k : D} {v : V} {e : D} (rv : Rp H v e) : ∀ {l : List (D × V)} {m : List (D × D)}, Paired (PD H) l m → Paired (PD H) (l.map fun kv => if kv.1 = k then (kv.1, v) else kv) (m.map fun p => if p.1 = k then (p.1, e) else p)
  | _, _, .nil => .nil
  | _, _, @Paired.cons _ _ _ p q _ _ h t => by
    rw [List.map_cons, List.map_cons]
    refine .cons ?_ (pd_map rv t)
    obtain ⟨h1, h2⟩ := h
    by_cases z : p.1 = k
    · rw [if_pos z, if_pos (h1 ▸ z)]; exact ⟨h1, rv⟩
    · rw [if_neg z, if_neg (fun y => z (h1.trans y))]; exact ⟨h1, h2⟩
theorem pd_put {l : List (D × V)} {m : List (D × D)} (r : Paired (PD H) l m) (k : D) {v : V} {e : D} (rv : Rp H v e) : Paired (PD H) (putK l k v) (if (m.lookup k).isSome then m.map (fun p => if p.1 = k then (p.1, e) else p) else m ++ [(k, e)]) := by
  have hv := pd_val r k
  have hs : (valV l k).isSome = (m.lookup k).isSome := by
    cases h : valV l k with
    | none => rw [hv.2 h]; rfl
    | some v => obtain ⟨e, he, _⟩ := hv.1 v h; rw [he]; rfl
  unfold putK
  rw [valV_any, hs]
  split
  · exact pd_map rv r
  · exact Paired.snoc r ⟨rfl, rv⟩
/-- the store told on data -/
def putD (m : List (D × D)) (k e : D) : List (D × D) := if (m.lookup k).isSome then m.map (fun p => if p.1 = k then (p.1, e) else p) else m ++ [(k, e)]
end

theorem stored_all {K : Type} [DecidableEq K] : ∀ (ps xs : List (K × Addr × Value)), ((xs ++ ps).map (·.1)).Nodup → storedAllH xs ps = xs ++ ps
  | [], xs, _ => by simp [storedAllH]
  | p :: ps, xs, h => by
    have hn : atKey xs p.1 = none := by
      refine atKey_none_of_get fun j q hj => ?_
      rw [List.map_append, List.nodup_append] at h
      exact h.2.2 p.1 (List.mem_map.mpr ⟨_, List.mem_of_getElem? hj, rfl⟩) p.1 (by simp) rfl
    show storedAllH (storedH xs p.1 p.2.1 p.2.2) ps = _
    rw [storedH_new hn]
    have e : xs ++ [(p.1, p.2.1, p.2.2)] = xs ++ [p] := rfl
    rw [e, stored_all ps (xs ++ [p]) (by rw [List.append_assoc]; exact h), List.append_assoc]
    rfl
section
variable {X : Cx}
/-- dict(xs), xs a list of pairs whose keys differ -/
theorem call_dictPN (hcalm : X.calm = true) (hu : Room9 X.A) : CallR X (.type "dict") (fun vs H Q => ∃ a ps, vs = [.ref a] ∧ LstD H a (ps.map fun p => pr p.1 p.2) ∧ (ps.map (·.1)).Nodup ∧ (∀ p ∈ ps, (∃ ks, p.1 = .tup ks) ∧ p.1.depth ≤ 8) ∧ ps.length ≤ 100000 ∧
    ∀ d o, H d = none → DatO X.w (upd H d (xO d o)) d o ps → Q (.ref d) (upd H d (xO d o))) := by
  intro pins s σ H xs us Q I r h
  obtain ⟨a, ps, rfl, ⟨ys, hp, hr⟩, hnd, hks, hl, q⟩ := h
  obtain ⟨u, rfl, ru⟩ := vals1 r
  cases ru
  obtain ⟨its, rv, pl, hz⟩ := I.list (SqL.of hp)
  -- the pairs, one by one
  have key : ∀ (ps : List (D × D)) (ys : List V) (its : List Value), (∀ p ∈ ps, (∃ ks, p.1 = .tup ks) ∧ p.1.depth ≤ 8) → RpAll H ys (ps.map fun p => pr p.1 p.2) → Vals ys its →
      ∃ (Ts : List Addr) (pv : List (Value × Value)) (xs : List (D × Addr × Value)) (kvs : List (D × V)), its = Ts.map Value.ref ∧ Ts.length = pv.length ∧ pv = xs.map (fun x => (Value.ref x.2.1, x.2.2)) ∧ xs.map (·.1) = ps.map (·.1) ∧ Paired (Ent H) kvs xs ∧ Paired (PD H) kvs ps ∧
        (∀ (j : Nat) (k v : Value), pv[j]? = some (k, v) → ∃ T : Addr, Ts[j]? = some T ∧ PairAt s.heap T k v) := by
    intro ps
    induction ps with
    | nil =>
      intro ys its _ h1 h2
      cases h1
      cases h2
      exact ⟨[], [], [], [], rfl, rfl, rfl, rfl, .nil, .nil, fun j k v h => by simp at h⟩
    | cons p ps ih =>
      intro ys its hk h1 h2
      cases h1 with
      | cons r1 t1 =>
        cases h2 with
        | cons r2 t2 =>
          obtain ⟨Ts, pv, xs, kvs, e1, e2, e3, e4, e5, e6, e7⟩ := ih _ _ (fun p hp => hk p (List.mem_cons_of_mem _ hp)) t1 t2
          unfold pr at r1
          cases r1 with
          | @tup T zs _ hT hz =>
            cases hz with
            | cons z1 tz =>
              cases tz with
              | cons z2 tz =>
                cases tz
                cases r2
                obtain ⟨⟨ks, ek⟩, hdp⟩ := hk p (List.mem_cons_self ..)
                rename_i kv vv
                obtain ⟨b, rfl⟩ : ∃ b, kv = .ref b := by rw [ek] at z1; cases z1; exact ⟨_, rfl⟩
                obtain ⟨_, its2, rv2, ob, ho, hc, n, hd⟩ := I.hok _ _ hT
                cases rv2 with
                | cons w1 tw =>
                  cases tw with
                  | cons w2 tw =>
                    cases tw
                    cases w1
                    rename_i vu
                    refine ⟨T :: Ts, (.ref b, vu) :: pv, (p.1, b, vu) :: xs, (p.1, vv) :: kvs, by rw [e1]; rfl, by simp [e2], by rw [e3]; rfl, by simp [e4], .cons ⟨rfl, z1, hdp, w2⟩ e5, .cons ⟨rfl, z2⟩ e6, fun j k v hj => ?_⟩
                    cases j with
                    | zero =>
                      simp at hj
                      obtain ⟨rfl, rfl⟩ := hj
                      exact ⟨T, rfl, .inl ⟨ob, ho, hc, n, hd⟩⟩
                    | succ j =>
                      obtain ⟨T', h1, h2⟩ := e7 j k v (by simpa using hj)
                      exact ⟨T', by simpa using h1, h2⟩
  obtain ⟨Ts, pv, xs, kvs, e1, e2, e3, e4, e5, e6, e7⟩ := key ps ys its hks hr rv
  have hlx : xs.length = ps.length := by have := congrArg List.length e4; simpa using this
  have hlp : pv.length = ps.length := by rw [e3, List.length_map, hlx]
  obtain ⟨oL, nL, ho, hc, hdn, hdt⟩ := pl
  have hit : PairItems s.heap its.toArray (fun j => Ts.getD j 0) pv := by
    refine ⟨by rw [e1]; simp [e2], fun j k v hj => ?_⟩
    obtain ⟨T, h1, h2⟩ := e7 j k v hj
    have e : Ts.getD j 0 = T := by rw [List.getD_eq_getElem?_getD, h1]; rfl
    show its.toArray[j]? = some (Value.ref (Ts.getD j 0)) ∧ PairAt s.heap (Ts.getD j 0) k v
    rw [e]
    exact ⟨by rw [e1]; simp [h1], h2⟩
  have hnd' : (xs.map (·.1)).Nodup := by rw [e4]; exact hnd
  refine call_dict_pairsH (knd := nk X) (ps := xs) (PairArg.list a its.toArray (fun j => Ts.getD j 0) pv) (I.ok.hd hcalm) (by have hu' : X.A.units + 20 < cLine := hu; show X.A.units + 1 + 1 + 8 < cLine; omega) ⟨⟨oL, nL, ho, hc, hdn, hdt⟩, hit⟩ ?_ ?_ (by rw [hlp]; exact sz_of hl) fun h' tk dd hk => ?_
  · refine ⟨by rw [hlx, hlp], fun i k v hi => ?_⟩
    have hi : pv[i]? = some (k, v) := hi
    rw [e3, List.getElem?_map] at hi
    cases hx : xs[i]? with
    | none => rw [hx] at hi; cases hi
    | some x =>
      rw [hx] at hi
      simp at hi
      exact ⟨x.1, x.2.1, by rw [← hi.2], hi.1.symm⟩
  · intro h2 hh x hx
    have z := ent_is I e5 x hx
    exact nestedKind_stays.stays (fun b o vs n hb _ => hh b o (Nat.ne_of_lt (Heap.lt_size hb)) (by simp) hb) z
  · rw [stored_all xs [] (by simpa using hnd')] at dd
    obtain ⟨o', es, ep, ho', hx', hdt', he', his', hn'⟩ := dd
    have hn : H s.heap.objs.size = none := I.hok.fresh (Nat.le_refl _)
    have hb : (s.heap.objs.size == sysModules) = false := by rw [beq_eq_false_iff_ne]; exact Nat.ne_of_gt I.big
    have ex : Ex H (upd H s.heap.objs.size (xO s.heap.objs.size o')) := Ex.new hn
    refine ⟨.ref s.heap.objs.size, _, I.laid (a := s.heap.objs.size) (o := xO s.heap.objs.size o') (t' := tk) (fun b o e => hk b o (by simp) e) (Nat.le_refl _) ⟨ho', ⟨_, ho'⟩, fun h1 h2 e k => k _ e⟩, rfl, q _ o' hn ?_⟩
    rw [List.nil_append] at he' hn'
    exact ⟨kvs, ⟨upd_same, hb, hx', by rw [Paired.length e5, hlx]; exact sz_of hl, es, ep, hdt', xs, he', hn', ent_tk (Tk.of ex) e5⟩, pd_tk (Tk.of ex) e6⟩

/-- {k: v}, k a tuple -/
def QD (w : World) (p : Addr) (Q : VK) (ps : List (V × V)) (H2 : Hp) : Prop := ∃ k v d, ps = [(k, v)] ∧ H2 p = some (.dK []) ∧ KeyAt H2 k d ∧ ∀ o, DctO w (upd H2 p (xO p o)) p o [(d, v)] → Q (.ref p) (upd H2 p (xO p o))
def tDisp1 (w : World) (tk tv : TE) : TE := fun σ H Q => ∀ p, H p = none → tk σ (upd H p (.dK [])) fun k H1 => tv σ H1 fun v H2 => QD w p Q [(k, v)] H2
theorem pe_disp1 {k v : Expr} {pos : Pos} {tk tv : TE} (hu : Room9 X.A) (hk : PE X k tk) (hv : PE X v tv) : PE X (.Dict [some k] [v] pos) (tDisp1 X.w tk tv) := by
  refine ⟨fun pins s σ H Q I q => ?_⟩
  have hn := I.hok.fresh (Nat.le_refl s.heap.objs.size)
  have I1 := I.laid (a := s.heap.objs.size) (o := .dK []) (h' := s.heap.push { cls := .type "dict", data := .dict #[] }) (t' := s.toks) (fun _ _ q => Heap.get?_push_of_some _ q) (Nat.le_refl _) (dk_empty s.heap I.big)
  have hq : tPairs [(tk, tv)] σ (upd H s.heap.objs.size (.dK [])) (QD X.w s.heap.objs.size Q) := q _ hn
  have hall : ([some k] : List (Option Expr)).all (·.isSome) = true := rfl
  have hpl : (pairTrees [some k] [v] X.env pos).length = 1 := pairTrees_length _ _ _ _ hall rfl
  have hp0 : pairTrees [some k] [v] X.env pos ≠ [] := fun he => by rw [he] at hpl; cases hpl
  rw [arm_eval_Dict, zip_pairTrees [some k] [v] X.env pos hall rfl, dictDisplay_pairs _ hp0 (by rw [hpl]; omega)]
  refine wpAny_bind (wpAny_standAt (wpAny_bind (wpAny_subDictH (knd := nk X) (by have hu' : X.A.units + 20 < cLine := hu; show X.A.units + 8 < cLine; omega) (by rw [hpl]; omega)
    (thn ((pps_cons hk hv pps_nil).run pins _ σ _ _ I1 hq) fun ws s2 ⟨ps, H2, I2, rel, kk, vv, d, ep, e, hka, q2⟩ => ?_))))
  subst ep
  cases rel with
  | @cons _ wp _ _ r t =>
    cases t
    obtain ⟨w1, w2⟩ := wp
    obtain ⟨r1, r2⟩ := r
    obtain ⟨b, rfl⟩ := hka.ref
    cases (show w1 = Value.ref b from r1)
    obtain ⟨z, hd, vs0, r0, dd⟩ := dk_of I2.hok e
    cases r0
    obtain ⟨o0, es0, ep0, ho0, hx0, hdt0, he0⟩ : ∃ o es ep, s2.heap.get? s.heap.objs.size = some o ∧ o.ExactDict ∧ o.data = .dict es ep ∧ es = #[] := by
      obtain ⟨o, es, ep, h1, h2, h3, h4, h5, h6⟩ := dd
      refine ⟨o, es, ep, h1, h2, h3, ?_⟩
      cases hes : es.toList with
      | nil => exact Array.toList_inj.mp hes
      | cons x xs => rw [hes] at h5; cases h5
    refine ⟨[(d, b, w2)], ⟨rfl, rfl, hka.is I2, trivial⟩, ⟨o0, es0, ep0, ho0, hx0, hdt0, by rw [he0]; rfl, fun x hx => by simp at hx, by simp⟩, fun h' tk dd' hs => ?_⟩
    obtain ⟨o', es, ep, ho', hx', hdt', he', his', hn'⟩ := dd'
    have nt : ∀ ys, H2 s.heap.objs.size ≠ some (.tup ys) := fun ys q => by rw [e] at q; cases q
    have eb : ExB s.heap.objs.size H2 (upd H2 s.heap.objs.size (xO s.heap.objs.size o')) := ExB.upd nt
    refine wpAny_pure ⟨.ref s.heap.objs.size, upd H2 s.heap.objs.size (xO s.heap.objs.size o'), d_write (t' := tk) I2 (by rw [e]; exact True.intro) hs ⟨o', ho'⟩ ⟨ho', ⟨o', ho'⟩, fun h1 h2 e k => k _ e⟩, rfl, q2 o' ?_⟩
    exact ⟨upd_same, hd, hx', by show 1 ≤ sizeLine; decide, es, ep, hdt', [(d, b, w2)], he', by simp, .cons ⟨rfl, Rp.tk eb.2 hka.rp, hka.dep, r2⟩ .nil⟩
end
end R
/-! DL8: == of two such dicts that hold the same -/
namespace R
open PySem PySem.W PySem.Spec PyProof.Rows L2 Evl

section
variable {prog : Program} {w : World} {A : Around} {E : Value → Shared → Prop} {s : Shared}
abbrev nkk (prog : Program) (w : World) := nestedKind prog w
theorem same_pairs {nm : String} {a b : Addr} {xa xb : List (D × Addr × Value)} {Q : Bool → Shared → Prop} (ha : (a == sysModules) = false) (hb : (b == sysModules) = false) (hu : (nkk prog w).room A)
    (da : s.heap.DictOfH (nkk prog w) a xa) (db : s.heap.DictOfH (nkk prog w) b xb) (hl : xa.length = xb.length)
    (hit : ∀ x ∈ xa, ∃ p, atKey xb x.1 = some p ∧ SeqAt.EqAt A s x.2.2 p.2 true) (h : Q true s) : wpAny (model prog w) A (Builtin.Dict.samePairs nm a b) Q E s := by
  obtain ⟨oa, es, ep, hoa, _, hda, hea, hia, hna⟩ := da
  obtain ⟨ob, es', ep', hob, _, hdb, heb, hib, hnb⟩ := db
  have hla : es.size = xa.length := size_of_entries hea
  have hlb : es'.size = xb.length := size_of_entries heb
  have hsz : es.size = es'.size := by rw [hla, hlb, hl]
  unfold Builtin.Dict.samePairs Builtin.Dict.showsAll
  rw [if_neg (show ¬ (a == sysModules) = true by rw [ha]; exact Bool.false_ne_true), if_neg (show ¬ (b == sysModules) = true by rw [hb]; exact Bool.false_ne_true)]
  refine wpAny_bind (wpAny_pure (wpAny_bind (wpAny_pure ?_)))
  refine wpAny_bind (wpAny_dictEntries hoa hda ?_)
  dsimp only
  refine wpAny_bind (wpAny_dictEntries hob hdb ?_)
  rw [if_neg (by rw [hsz]; simp)]
  refine wpAny_bind (wpAny_dictEpoch hoa hda ?_)
  refine wpAny_bind ?_
  rw [Std.Legacy.Range.forIn_eq_forIn_range']
  simp only [Std.Legacy.Range.size, Nat.sub_zero, Nat.add_sub_cancel, Nat.div_one]
  refine wpAny_forIn_list _ (fun rest q s' => s' = s ∧ q = (none, ()) ∧ ∃ i, rest = List.range' i (es.size - i) ∧ i ≤ es.size) _ ?_ ?_ _ _ ⟨rfl, rfl, 0, by simp, Nat.zero_le _⟩
  · rintro x rest q s' ⟨rfl, rfl, i, hr, hi⟩
    have hlt : i < es.size := by
      rcases Nat.lt_or_ge i es.size with h | h
      · exact h
      · rw [Nat.sub_eq_zero_of_le h] at hr; simp at hr
    obtain ⟨rfl, hrest⟩ : x = i ∧ rest = List.range' (i + 1) (es.size - (i + 1)) := by
      have e : es.size - i = (es.size - (i + 1)) + 1 := by omega
      rw [e, List.range'_succ] at hr
      injection hr with h1 h2
      exact ⟨h1, h2⟩
    refine wpAny_bind (wpAny_dictEntries hoa hda ?_)
    rw [Array.getElem?_eq_getElem hlt]
    obtain ⟨y, hy⟩ : ∃ y, xa[x]? = some y := ⟨xa[x]'(by omega), List.getElem?_eq_getElem _⟩
    have hex : es[x] = entryOfKey (nkk prog w) y := by
      have z := entry_at hea x
      rw [hy, Array.getElem?_eq_getElem hlt] at z
      exact Option.some.inj z
    have hym := List.mem_of_getElem? hy
    obtain ⟨p, hp, heq⟩ := hit y hym
    show wpAny _ _ (holding [es[x].key, es[x].val] _ >>= _) _ _ _
    rw [hex]
    refine wpAny_bind (wpAny_holding (wpAny_bind (wpAny_dictFind_heap hu (hia y hym) hob hdb heb hib hnb (fun hno => ?_) fun j pj hj => ?_)))
    · rw [atKey_none_of_get hno] at hp
      cases hp
    · rw [atKey_of_get hnb hj] at hp
      cases hp
      refine wpAny_bind (wpAny_dictEntries hob hdb ?_)
      rw [entry_at heb j, hj]
      refine wpAny_holding (heq prog w _ _ ?_)
      show wpAny _ _ (if (!true) = true then _ else _) _ _ _
      rw [if_neg (by decide)]
      refine wpAny_bind (wpAny_dictEpoch hoa hda ?_)
      rw [if_neg (by simp)]
      exact wpAny_pure ⟨rfl, rfl, x + 1, hrest, hlt⟩
  · rintro q s' ⟨rfl, rfl, i, hr, hi⟩
    exact wpAny_pure h
theorem dict_eqTrue {a b : Addr} {xa xb : List (D × Addr × Value)} {Q : Value → Shared → Prop} (ha : (a == sysModules) = false) (hb : (b == sysModules) = false) (hu : Room9 A)
    (da : s.heap.DictOfH (nkk prog w) a xa) (db : s.heap.DictOfH (nkk prog w) b xb) (hl : xa.length = xb.length)
    (hit : ∀ x ∈ xa, ∃ p, atKey xb x.1 = some p ∧ SeqAt.EqAt A.in1 s x.2.2 p.2 true) (h : Q (.bool true) s) : wpAny (model prog w) A (compareOp .Eq (.ref a) (.ref b)) Q E s := by
  have hu1 : A.units + 20 < cLine := hu
  refine wpAny_richCompare_same_room (op := .Eq) da.typeIs db.typeIs PySem.F.slot_dict_eq (wpAny_call_entry PySem.F.slot_dict_eq da.typeIs PySem.F.entry_dict_eq ?_ (PySem.F.args_dict_eq_2 _ _)) (by omega)
  show wpAny _ _ (Builtin.Dict.dictSlotArgs "__eq__" ⟨[.ref a, .ref b], []⟩ >>= _) _ _ s
  refine wpAny_bind ?_
  unfold Builtin.Dict.dictSlotArgs
  refine wpAny_bind (wpAny_notOrdered_dict da.typeIs ?_)
  show wpAny _ _ (pure (Value.ref a, Value.ref b)) _ _ s
  refine wpAny_pure ?_
  refine wpAny_bind (wpAny_isInstance (T := "dict") db.typeIs PySem.F.sub_dict_dict ?_)
  simp only [Bool.not_true, Bool.false_eq_true, if_false]
  refine wpAny_bind (wpAny_pure (wpAny_bind (wpAny_pure ?_)))
  refine wpAny_bind (same_pairs ha hb (by show A.units + 1 + 8 < cLine; omega) da db hl hit ?_)
  refine wpAny_pure ⟨_, rfl, ?_, ?_⟩
  · exact fun x => nomatch x
  · exact h
end
section
variable {X : Cx}
theorem op_eqDicts (hu : Room9 X.A) : OpR X (compareOp .Eq) (fun x y H Q => ∃ a b ps qs, x = .ref a ∧ y = .ref b ∧ Dat X.w H a ps ∧ Dat X.w H b qs ∧ ps.length = qs.length ∧ (∀ p ∈ ps, qs.lookup p.1 = some p.2 ∧ p.2.depth ≤ 8) ∧ Q (.bl true) H) := by
  intro pins s σ H x y v u Q I rx ry h
  obtain ⟨a, b, ps, qs, rfl, rfl, ⟨oa, ka, ga, ra⟩, ⟨ob, kb, gb, rb⟩, hl, hit, q⟩ := h
  cases rx
  cases ry
  obtain ⟨xa, da, pa⟩ := ga.ofH I
  obtain ⟨xb, db, pb⟩ := gb.ofH I
  have hl1 : xa.length = xb.length := by rw [← Paired.length pa, ← Paired.length pb, pd_len ra, pd_len rb, hl]
  refine dict_eqTrue ga.2.1 gb.2.1 hu da db hl1 (fun x hx => ?_) ⟨.bl true, H, I, rfl, q⟩
  obtain ⟨i, hi⟩ := List.mem_iff_getElem?.mp hx
  have hlt : i < ka.length := by rw [Paired.length pa]; exact (List.getElem?_eq_some_iff.mp hi).1
  obtain ⟨⟨k, va⟩, hk⟩ : ∃ p, ka[i]? = some p := ⟨ka[i], List.getElem?_eq_getElem hlt⟩
  obtain ⟨x', hx', e1, e2, e3, e4⟩ := ent_get pa hk
  rw [hi] at hx'
  cases hx'
  obtain ⟨⟨k', d⟩, hq, f1, f2⟩ := pd_get ra hk
  obtain ⟨g1, g2⟩ := hit _ (List.mem_of_getElem? hq)
  have f1 : k = k' := f1
  subst f1
  have e1 : k = x.1 := e1
  -- the other one
  have hv := pd_val rb k
  cases hb : valV kb k with
  | none =>
    rw [hv.2 hb] at g1
    cases g1
  | some vb =>
    obtain ⟨d', h1, h2⟩ := hv.1 vb hb
    rw [g1] at h1
    cases h1
    have z := ent_val pb k
    rw [hb] at z
    cases hp : atKey xb k with
    | none => rw [hp] at z; exact z.elim
    | some p =>
      rw [hp] at z
      refine ⟨p, by rw [← e1]; exact hp, ?_⟩
      have hu1 : X.A.units + 20 < cLine := hu
      have := eqAt_key d d X.A.in1 s x.2.2 p.2 (Rp.is I.hok f2 e4) (Rp.is I.hok h2 z) (by
        have hm : min d.depth d.depth = d.depth := Nat.min_self _
        rw [hm]
        show X.A.units + 1 + d.depth < cLine
        have g2 : d.depth ≤ 8 := g2
        omega)
      rw [NestedKey.beq_self] at this
      exact this
end
end R
/-! DL9: min(a, b), max(a, b) of two tuples -/
namespace R
open PySem PySem.W PySem.Spec PyProof.Rows L2 Evl
theorem argBest_le (bt : Nat → Nat → Bool) : ∀ k, argBest bt k ≤ k
  | 0 => Nat.le_refl _
  | k + 1 => by
    unfold argBest
    split
    · exact Nat.le_refl _
    · exact Nat.le_succ_of_le (argBest_le bt k)

def CmpIn_max (prog : Program) (w : World) (A : Around) (h0 : Heap) (n : Nat) (P : Nat → Value → Prop) (bt : Nat → Nat → Bool) : Prop :=
  ∀ i j vi vj (s : Shared) (Q : Value → Shared → Prop) (E : Value → Shared → Prop), j < i → i < n → (∀ b o, h0.get? b = some o → s.heap.get? b = some o) → P i vi → P j vj → Q (.bool (bt i j)) s → wpAny (model prog w) A (richCompare .Gt vi vj) Q E s
section
variable {prog : Program} {w : World} {A : Around} {R : Result → Shared → Prop} {I : Addr} {fp wr : List Addr} {n : Nat} {P : Nat → Value → Prop} {St : Nat → Heap → Prop} {h0 : Heap}
theorem max_loopIn (W : Walks prog w A.in1 I fp wr n P St) (bt : Nat → Nat → Bool) (hcmp : CmpIn_max prog w A.in1 h0 n P bt) (S : Addr) (hSf : S ∉ fp) (hap : ∀ b o, h0.get? b = some o → b ∉ wr ∧ b ≠ S) :
    ∀ (k j : Nat) (s : Shared) (vb : Value) (c : Nat), (∀ b o, h0.get? b = some o → s.heap.get? b = some o) → n - (j + 1) = k → j + 1 ≤ n → St (j + 1) s.heap → P (argBest bt j) vb →
    s.heap.get? S = some { cls := .type "list", dict := none, data := .seq #[vb, vb] c, slots := #[] } →
    (∀ v h' tk, P (argBest bt (n - 1)) v → (∀ b o, b ∉ wr → b ≠ S → s.heap.get? b = some o → h'.get? b = some o) → R (.ok (.ret v)) { s with heap := h', toks := tk }) →
    codeAny (model prog w) A (.builtin "max.loop" ⟨[.ref I, .none, .ref S], []⟩) R s := by
  have hSw : S ∉ wr := fun h => hSf (W.sub _ h)
  have hname : (toString "max" ++ toString ".loop" : String) = "max.loop" := by decide
  intro k
  induction k with
  | zero =>
    intro j s vb c h00 hk hj hst hPb hS hR
    have hin : j + 1 = n := by omega
    refine codeAny_builtin F.entry_max_loop ?_
    rw [Around.under_plainId F.plain_max_loop _]
    show wpAny _ A.in1 (seqItems? (.ref S) >>= _) _ _ s
    refine wpAny_bind (wpAny_seqItems hS rfl ?_)
    show wpAny _ A.in1 (tryCatch (pyNext (.ref I)) _ >>= _) _ _ s
    refine wpAny_bind (wpAny_tryCatch (W.done s _ _ (hin ▸ hst) fun h' tk hk' => ?_))
    have hS' := hk' S _ hSw hS
    show wpAny _ A.in1 (updateSeq S (fun _ => #[]) >>= _) _ _ _
    refine wpAny_bind ?_
    refine wpAny_updateSeq hS' rfl (wpAny_bind (wpAny_letGo (wpAny_pure ?_)))
    refine hR vb _ tk (by rw [← hin]; exact hPb) fun b o hbw hbS e => (Heap.get?_update_other _ _ (Ne.symm hbS)).trans (hk' b o hbw e)
  | succ k ih =>
    intro j s vb c h00 hk hj hst hPb hS hR
    have hlt : j + 1 < n := by omega
    refine codeAny_builtin F.entry_max_loop ?_
    rw [Around.under_plainId F.plain_max_loop _]
    show wpAny _ A.in1 (seqItems? (.ref S) >>= _) _ _ s
    refine wpAny_bind (wpAny_seqItems hS rfl ?_)
    show wpAny _ A.in1 (tryCatch (pyNext (.ref I)) _ >>= _) _ _ s
    refine wpAny_bind (wpAny_tryCatch (W.item (j + 1) s _ _ hlt hst fun v h' tk hP hst' hk' => ?_))
    have hS' := hk' S _ hSw hS
    have h01 : ∀ b o, h0.get? b = some o → h'.get? b = some o := fun b o e => hk' b o (hap b o e).1 (h00 b o e)
    show wpAny _ A.in1 (tryCatch (holding [v, v] (richCompare .Gt v vb >>= _)) _ >>= _) _ _ _
    refine wpAny_bind (wpAny_tryCatch (wpAny_holding (wpAny_bind (hcmp (j + 1) (argBest bt j) v vb _ _ _ (Nat.lt_succ_of_le (argBest_le bt j)) hlt h01 hP hPb ?_))))
    refine wpAny_bind (wpAny_holding (wpAny_truthy_bool ?_))
    refine wpAny_bind (wpAny_letGo (wpAny_pure ?_))
    cases hb : bt (j + 1) (argBest bt j) with
    | true =>
      simp only [if_true]
      refine wpAny_bind ?_
      refine wpAny_updateSeq hS' rfl (wpAny_bind (wpAny_letGo ?_))
      rw [hname]
      refine wpAny_pure ⟨plainId_quiet F.plain_max_loop _, ih (j + 1) _ v _ (fun b o e => (Heap.get?_update_other _ _ (Ne.symm (hap b o e).2)).trans (h01 b o e)) (by omega) hlt (W.frame _ _ _ hst' fun b hbf o e => ?_) (by simp only [argBest, hb, if_true]; exact hP) (Heap.get?_update_self _ hS' rfl)
        fun v' h'' tk'' hP' hk'' => ?_⟩
      · exact (Heap.get?_update_other _ _ (fun h : S = b => hSf (by rw [h]; exact hbf))).trans e
      · exact hR v' h'' tk'' hP' fun b o hbw hbS e => hk'' b o hbw hbS ((Heap.get?_update_other _ _ (Ne.symm hbS)).trans (hk' b o hbw e))
    | false =>
      simp only [Bool.false_eq_true, if_false]
      refine wpAny_bind (wpAny_letGo ?_)
      rw [hname]
      refine wpAny_pure ⟨plainId_quiet F.plain_max_loop _, ih (j + 1) _ vb c h01 (by omega) hlt hst' (by simp only [argBest, hb, Bool.false_eq_true, if_false]; exact hPb) hS' fun v' h'' tk'' hP' hk'' => ?_⟩
      exact hR v' h'' tk'' hP' fun b o hbw hbS e => hk'' b o hbw hbS (hk' b o hbw e)
theorem max_firstIn (W : Walks prog w A.in1 I fp wr n P St) (bt : Nat → Nat → Bool) (hcmp : CmpIn_max prog w A.in1 h0 n P bt) (S : Addr) (hSf : S ∉ fp) (hap : ∀ b o, h0.get? b = some o → b ∉ wr ∧ b ≠ S) (hn : 0 < n) {s : Shared} {c : Nat} (h00 : ∀ b o, h0.get? b = some o → s.heap.get? b = some o) (hst : St 0 s.heap)
    (hS : s.heap.get? S = some { cls := .type "list", dict := none, data := .seq #[] c, slots := #[] })
    (hR : ∀ v h' tk, P (argBest bt (n - 1)) v → (∀ b o, b ∉ wr → b ≠ S → s.heap.get? b = some o → h'.get? b = some o) → R (.ok (.ret v)) { s with heap := h', toks := tk }) :
    codeAny (model prog w) A (.builtin "max.loop" ⟨[.ref I, .none, .ref S], []⟩) R s := by
  have hSw : S ∉ wr := fun h => hSf (W.sub _ h)
  have hname : (toString "max" ++ toString ".loop" : String) = "max.loop" := by decide
  refine codeAny_builtin F.entry_max_loop ?_
  rw [Around.under_plainId F.plain_max_loop _]
  show wpAny _ A.in1 (seqItems? (.ref S) >>= _) _ _ s
  refine wpAny_bind (wpAny_seqItems hS rfl ?_)
  show wpAny _ A.in1 (tryCatch (pyNext (.ref I)) _ >>= _) _ _ s
  refine wpAny_bind (wpAny_tryCatch (W.item 0 s _ _ hn hst fun v h' tk hP hst' hk' => ?_))
  have hS' := hk' S _ hSw hS
  show wpAny _ A.in1 (updateSeq S (fun _ => #[v, v]) >>= _) _ _ _
  refine wpAny_bind ?_
  refine wpAny_updateSeq hS' rfl ?_
  rw [hname]
  refine wpAny_pure ⟨plainId_quiet F.plain_max_loop _, max_loopIn W bt hcmp S hSf hap _ 0 _ v _ (fun b o e => (Heap.get?_update_other _ _ (Ne.symm (hap b o e).2)).trans (hk' b o (hap b o e).1 (h00 b o e))) rfl hn (W.frame _ _ _ hst' fun b hbf o e => ?_) hP (Heap.get?_update_self _ hS' rfl) fun v' h'' tk'' hP' hk'' => ?_⟩
  · exact (Heap.get?_update_other _ _ (fun h : S = b => hSf (by rw [h]; exact hbf))).trans e
  · exact hR v' h'' tk'' hP' fun b o hbw hbS e => hk'' b o hbw hbS ((Heap.get?_update_other _ _ (Ne.symm hbS)).trans (hk' b o hbw e))
end
/-- max(a, b) of two values whose order is known while what stands stays -/
theorem call_max_vals {prog : Program} {w : World} {A : Around} {E : Value → Shared → Prop} {s : Shared} {a b : Value} {k : Bool} {Q : Value → Shared → Prop} (hh : A.handled = none)
    (hcmp : ∀ (s' : Shared) (Q : Value → Shared → Prop) (E : Value → Shared → Prop), (∀ c o, s.heap.get? c = some o → s'.heap.get? c = some o) → Q (.bool k) s' → wpAny (model prog w) A.in1 (richCompare .Gt b a) Q E s')
    (h : ∀ h' tk, (∀ c o, s.heap.get? c = some o → h'.get? c = some o) → Q (if k = true then b else a) { s with heap := h', toks := tk }) : wpAny (model prog w) A (call (.builtin "max") [a, b]) Q E s := by
  have hname : (toString "max" ++ toString ".loop" : String) = "max.loop" := by decide
  have hT : (s.heap.push { cls := .type "tuple", data := .seq #[a, b] }).IsTuple s.heap.objs.size #[a, b] := ⟨_, Heap.get?_push_size _ rfl, rfl, 0, rfl⟩
  have hsz : (s.heap.push { cls := .type "tuple", data := .seq #[a, b] }).objs.size = s.heap.objs.size + 1 := Heap.size_push ..
  refine call_function_tree F.kind_max F.plain_max F.entry_max (F.args_max2 _ _) ?_
  show wpAny _ A.in1 (Builtin.Builtins.bindParams "max" ["key", "default"] 0 ⟨[], []⟩ >>= _) _ _ s
  refine wpAny_bind (wpAny_of_eq (show Builtin.Builtins.bindParams "max" ["key", "default"] 0 ⟨[], []⟩ = pure [none, none] from rfl) ?_)
  show wpAny _ A.in1 (newTuple [a, b] >>= _) _ _ s
  refine wpAny_bind (wpAny_newObj_type ?_)
  refine wpAny_bind (wpAny_pyIter_tuple (s := { s with heap := s.heap.push { cls := .type "tuple", data := .seq #[a, b] } }) hT ?_)
  have W := Walks.tuple (prog := prog) (w := w) (A := A.in1) hh (s.heap.push { cls := .type "tuple", data := .seq #[a, b] }).objs.size s.heap.objs.size (by rw [hsz]; exact Nat.ne_of_lt (Nat.lt_succ_self _)) #[a, b]
  refine wpAny_bind (wpAny_newObj_type ?_)
  rw [hname]
  have hne : ∀ b o, s.heap.get? b = some o → b < s.heap.objs.size := fun b o e => Heap.lt_size e
  refine wpAny_pure ⟨plainId_quiet F.plain_max_loop _, max_firstIn (h0 := s.heap) W (fun i j => if i = 1 ∧ j = 0 then k else false) ?hcmp _ ?hS ?hap (by show 0 < 2; decide) ?h00 ?hst (Heap.get?_push_size _ rfl) fun v h' tk hP hk => ?_⟩
  case hcmp =>
    intro i j vi vj s' Q' E' hji hi2 hb hi hj hq
    have e1 : i = 1 ∧ j = 0 := by
      have : i < 2 := hi2
      omega
    obtain ⟨rfl, rfl⟩ := e1
    cases hi
    cases hj
    exact hcmp s' Q' E' hb hq
  case hS =>
    show (((s.heap.push _).push _).objs.size) ∉ _
    simp only [Heap.size_push, List.mem_cons, List.not_mem_nil, or_false, not_or]
    exact ⟨Nat.succ_ne_self _, Nat.ne_of_gt (Nat.lt_succ_of_lt (Nat.lt_succ_self _))⟩
  case hap =>
    intro b o e
    have := hne b o e
    show b ∉ _ ∧ b ≠ (((s.heap.push _).push _).objs.size)
    simp only [Heap.size_push, List.mem_cons, List.not_mem_nil, or_false]
    exact ⟨Nat.ne_of_lt (Nat.lt_succ_of_lt this), Nat.ne_of_lt (Nat.lt_succ_of_lt (Nat.lt_succ_of_lt this))⟩
  case h00 => exact fun b o e => Heap.get?_push_of_some _ (Heap.get?_push_of_some _ (Heap.get?_push_of_some _ e))
  case hst => exact W.frame 0 _ _ ⟨⟨_, Heap.get?_push_size _ rfl, rfl, rfl⟩, hT.push _⟩ fun b _ o e => Heap.get?_push_of_some _ e
  have hold : ∀ c o, s.heap.get? c = some o → h'.get? c = some o := fun c o e => by
    have := hne c o e
    refine hk c o (fun hm => ?_) (fun hm => ?_) (Heap.get?_push_of_some _ (Heap.get?_push_of_some _ (Heap.get?_push_of_some _ e)))
    · simp only [Heap.size_push, List.mem_cons, List.not_mem_nil, or_false] at hm
      exact Nat.ne_of_lt (Nat.lt_succ_of_lt this) hm
    · have hm : c = (((s.heap.push _).push _).objs.size) := hm
      simp only [Heap.size_push] at hm
      exact Nat.ne_of_lt (Nat.lt_succ_of_lt (Nat.lt_succ_of_lt this)) hm
  have hv : v = if k = true then b else a := by
    have hP' : #[a, b][argBest (fun i j => if i = 1 ∧ j = 0 then k else false) 1]? = some v := hP
    cases k with
    | true => simpa [argBest] using hP'.symm
    | false => simpa [argBest] using hP'.symm
  rw [hv]
  exact h h' tk hold
section
variable {X : Cx}
/-- max(a, b) of two tuples -/
theorem call_maxD (hcalm : X.calm = true) (hu : Room9 X.A) : CallR X (.builtin "max") (fun vs H Q => ∃ x y d e, vs = [x, y] ∧ Rp H x d ∧ Rp H y e ∧ PySem.W.alike d.data e.data = true ∧ d ≠ .none ∧ e ≠ .none ∧ d.depth ≤ 8 ∧ e.depth ≤ 8 ∧ ∀ z, Rp H z (if dataLt d.data e.data = true then e else d) → Q z H) := by
  intro pins s σ H xs us Q I r h
  obtain ⟨x, y, d, e, rfl, rx, ry, hal, hd, he, h1, h2, q⟩ := h
  obtain ⟨u, u', rfl, ru, ru'⟩ := vals2 r
  obtain ⟨as, ra⟩ := Dp.reads I _ x u (Rp.dp rx) ru
  obtain ⟨bs, rb⟩ := Dp.reads I _ y u' (Rp.dp ry) ru'
  have hu1 : X.A.units + 20 < cLine := hu
  have hal' : PySem.W.alike e.data d.data = true := by rw [PySem.W.alike_comm]; exact hal
  refine call_max_vals (k := dataLt d.data e.data) (I.ok.hd hcalm) (fun s' Q' E' hk hq => ?_) fun h' tk hk => ?_
  · refine rcGt_alike e.data d.data X.A.in1 s' u' u _ _ (PyProof.Rows.Reads.keeps hk rb) (PyProof.Rows.Reads.keeps hk ra) hal' (by cases e <;> simp_all [NestedKey.data]) ?_ X.prog X.w _ _ ?_
    · rw [depth_data, depth_data]
      have := Nat.min_le_left e.depth d.depth
      show X.A.units + 1 + _ < cLine
      omega
    · exact hq
  · cases hb : dataLt d.data e.data with
    | true =>
      rw [hb] at q
      exact ⟨y, H, I.kept hk, ru', q y ry⟩
    | false =>
      rw [hb] at q
      exact ⟨x, H, I.kept hk, ru, q x rx⟩
end

def CmpIn_min (prog : Program) (w : World) (A : Around) (h0 : Heap) (n : Nat) (P : Nat → Value → Prop) (bt : Nat → Nat → Bool) : Prop :=
  ∀ i j vi vj (s : Shared) (Q : Value → Shared → Prop) (E : Value → Shared → Prop), j < i → i < n → (∀ b o, h0.get? b = some o → s.heap.get? b = some o) → P i vi → P j vj → Q (.bool (bt i j)) s → wpAny (model prog w) A (richCompare .Lt vi vj) Q E s
section
variable {prog : Program} {w : World} {A : Around} {R : Result → Shared → Prop} {I : Addr} {fp wr : List Addr} {n : Nat} {P : Nat → Value → Prop} {St : Nat → Heap → Prop} {h0 : Heap}
theorem min_loopIn (W : Walks prog w A.in1 I fp wr n P St) (bt : Nat → Nat → Bool) (hcmp : CmpIn_min prog w A.in1 h0 n P bt) (S : Addr) (hSf : S ∉ fp) (hap : ∀ b o, h0.get? b = some o → b ∉ wr ∧ b ≠ S) :
    ∀ (k j : Nat) (s : Shared) (vb : Value) (c : Nat), (∀ b o, h0.get? b = some o → s.heap.get? b = some o) → n - (j + 1) = k → j + 1 ≤ n → St (j + 1) s.heap → P (argBest bt j) vb →
    s.heap.get? S = some { cls := .type "list", dict := none, data := .seq #[vb, vb] c, slots := #[] } →
    (∀ v h' tk, P (argBest bt (n - 1)) v → (∀ b o, b ∉ wr → b ≠ S → s.heap.get? b = some o → h'.get? b = some o) → R (.ok (.ret v)) { s with heap := h', toks := tk }) →
    codeAny (model prog w) A (.builtin "min.loop" ⟨[.ref I, .none, .ref S], []⟩) R s := by
  have hSw : S ∉ wr := fun h => hSf (W.sub _ h)
  have hname : (toString "min" ++ toString ".loop" : String) = "min.loop" := by decide
  intro k
  induction k with
  | zero =>
    intro j s vb c h00 hk hj hst hPb hS hR
    have hin : j + 1 = n := by omega
    refine codeAny_builtin F.entry_min_loop ?_
    rw [Around.under_plainId F.plain_min_loop _]
    show wpAny _ A.in1 (seqItems? (.ref S) >>= _) _ _ s
    refine wpAny_bind (wpAny_seqItems hS rfl ?_)
    show wpAny _ A.in1 (tryCatch (pyNext (.ref I)) _ >>= _) _ _ s
    refine wpAny_bind (wpAny_tryCatch (W.done s _ _ (hin ▸ hst) fun h' tk hk' => ?_))
    have hS' := hk' S _ hSw hS
    show wpAny _ A.in1 (updateSeq S (fun _ => #[]) >>= _) _ _ _
    refine wpAny_bind ?_
    refine wpAny_updateSeq hS' rfl (wpAny_bind (wpAny_letGo (wpAny_pure ?_)))
    refine hR vb _ tk (by rw [← hin]; exact hPb) fun b o hbw hbS e => (Heap.get?_update_other _ _ (Ne.symm hbS)).trans (hk' b o hbw e)
  | succ k ih =>
    intro j s vb c h00 hk hj hst hPb hS hR
    have hlt : j + 1 < n := by omega
    refine codeAny_builtin F.entry_min_loop ?_
    rw [Around.under_plainId F.plain_min_loop _]
    show wpAny _ A.in1 (seqItems? (.ref S) >>= _) _ _ s
    refine wpAny_bind (wpAny_seqItems hS rfl ?_)
    show wpAny _ A.in1 (tryCatch (pyNext (.ref I)) _ >>= _) _ _ s
    refine wpAny_bind (wpAny_tryCatch (W.item (j + 1) s _ _ hlt hst fun v h' tk hP hst' hk' => ?_))
    have hS' := hk' S _ hSw hS
    have h01 : ∀ b o, h0.get? b = some o → h'.get? b = some o := fun b o e => hk' b o (hap b o e).1 (h00 b o e)
    show wpAny _ A.in1 (tryCatch (holding [v, v] (richCompare .Lt v vb >>= _)) _ >>= _) _ _ _
    refine wpAny_bind (wpAny_tryCatch (wpAny_holding (wpAny_bind (hcmp (j + 1) (argBest bt j) v vb _ _ _ (Nat.lt_succ_of_le (argBest_le bt j)) hlt h01 hP hPb ?_))))
    refine wpAny_bind (wpAny_holding (wpAny_truthy_bool ?_))
    refine wpAny_bind (wpAny_letGo (wpAny_pure ?_))
    cases hb : bt (j + 1) (argBest bt j) with
    | true =>
      simp only [if_true]
      refine wpAny_bind ?_
      refine wpAny_updateSeq hS' rfl (wpAny_bind (wpAny_letGo ?_))
      rw [hname]
      refine wpAny_pure ⟨plainId_quiet F.plain_min_loop _, ih (j + 1) _ v _ (fun b o e => (Heap.get?_update_other _ _ (Ne.symm (hap b o e).2)).trans (h01 b o e)) (by omega) hlt (W.frame _ _ _ hst' fun b hbf o e => ?_) (by simp only [argBest, hb, if_true]; exact hP) (Heap.get?_update_self _ hS' rfl)
        fun v' h'' tk'' hP' hk'' => ?_⟩
      · exact (Heap.get?_update_other _ _ (fun h : S = b => hSf (by rw [h]; exact hbf))).trans e
      · exact hR v' h'' tk'' hP' fun b o hbw hbS e => hk'' b o hbw hbS ((Heap.get?_update_other _ _ (Ne.symm hbS)).trans (hk' b o hbw e))
    | false =>
      simp only [Bool.false_eq_true, if_false]
      refine wpAny_bind (wpAny_letGo ?_)
      rw [hname]
      refine wpAny_pure ⟨plainId_quiet F.plain_min_loop _, ih (j + 1) _ vb c h01 (by omega) hlt hst' (by simp only [argBest, hb, Bool.false_eq_true, if_false]; exact hPb) hS' fun v' h'' tk'' hP' hk'' => ?_⟩
      exact hR v' h'' tk'' hP' fun b o hbw hbS e => hk'' b o hbw hbS (hk' b o hbw e)
theorem min_firstIn (W : Walks prog w A.in1 I fp wr n P St) (bt : Nat → Nat → Bool) (hcmp : CmpIn_min prog w A.in1 h0 n P bt) (S : Addr) (hSf : S ∉ fp) (hap : ∀ b o, h0.get? b = some o → b ∉ wr ∧ b ≠ S) (hn : 0 < n) {s : Shared} {c : Nat} (h00 : ∀ b o, h0.get? b = some o → s.heap.get? b = some o) (hst : St 0 s.heap)
    (hS : s.heap.get? S = some { cls := .type "list", dict := none, data := .seq #[] c, slots := #[] })
    (hR : ∀ v h' tk, P (argBest bt (n - 1)) v → (∀ b o, b ∉ wr → b ≠ S → s.heap.get? b = some o → h'.get? b = some o) → R (.ok (.ret v)) { s with heap := h', toks := tk }) :
    codeAny (model prog w) A (.builtin "min.loop" ⟨[.ref I, .none, .ref S], []⟩) R s := by
  have hSw : S ∉ wr := fun h => hSf (W.sub _ h)
  have hname : (toString "min" ++ toString ".loop" : String) = "min.loop" := by decide
  refine codeAny_builtin F.entry_min_loop ?_
  rw [Around.under_plainId F.plain_min_loop _]
  show wpAny _ A.in1 (seqItems? (.ref S) >>= _) _ _ s
  refine wpAny_bind (wpAny_seqItems hS rfl ?_)
  show wpAny _ A.in1 (tryCatch (pyNext (.ref I)) _ >>= _) _ _ s
  refine wpAny_bind (wpAny_tryCatch (W.item 0 s _ _ hn hst fun v h' tk hP hst' hk' => ?_))
  have hS' := hk' S _ hSw hS
  show wpAny _ A.in1 (updateSeq S (fun _ => #[v, v]) >>= _) _ _ _
  refine wpAny_bind ?_
  refine wpAny_updateSeq hS' rfl ?_
  rw [hname]
  refine wpAny_pure ⟨plainId_quiet F.plain_min_loop _, min_loopIn W bt hcmp S hSf hap _ 0 _ v _ (fun b o e => (Heap.get?_update_other _ _ (Ne.symm (hap b o e).2)).trans (hk' b o (hap b o e).1 (h00 b o e))) rfl hn (W.frame _ _ _ hst' fun b hbf o e => ?_) hP (Heap.get?_update_self _ hS' rfl) fun v' h'' tk'' hP' hk'' => ?_⟩
  · exact (Heap.get?_update_other _ _ (fun h : S = b => hSf (by rw [h]; exact hbf))).trans e
  · exact hR v' h'' tk'' hP' fun b o hbw hbS e => hk'' b o hbw hbS ((Heap.get?_update_other _ _ (Ne.symm hbS)).trans (hk' b o hbw e))
end
/-- min(a, b) of two values whose order is known while what stands stays -/
theorem call_min_vals {prog : Program} {w : World} {A : Around} {E : Value → Shared → Prop} {s : Shared} {a b : Value} {k : Bool} {Q : Value → Shared → Prop} (hh : A.handled = none)
    (hcmp : ∀ (s' : Shared) (Q : Value → Shared → Prop) (E : Value → Shared → Prop), (∀ c o, s.heap.get? c = some o → s'.heap.get? c = some o) → Q (.bool k) s' → wpAny (model prog w) A.in1 (richCompare .Lt b a) Q E s')
    (h : ∀ h' tk, (∀ c o, s.heap.get? c = some o → h'.get? c = some o) → Q (if k = true then b else a) { s with heap := h', toks := tk }) : wpAny (model prog w) A (call (.builtin "min") [a, b]) Q E s := by
  have hname : (toString "min" ++ toString ".loop" : String) = "min.loop" := by decide
  have hT : (s.heap.push { cls := .type "tuple", data := .seq #[a, b] }).IsTuple s.heap.objs.size #[a, b] := ⟨_, Heap.get?_push_size _ rfl, rfl, 0, rfl⟩
  have hsz : (s.heap.push { cls := .type "tuple", data := .seq #[a, b] }).objs.size = s.heap.objs.size + 1 := Heap.size_push ..
  refine call_function_tree F.kind_min F.plain_min F.entry_min (F.args_min2 _ _) ?_
  show wpAny _ A.in1 (Builtin.Builtins.bindParams "min" ["key", "default"] 0 ⟨[], []⟩ >>= _) _ _ s
  refine wpAny_bind (wpAny_of_eq (show Builtin.Builtins.bindParams "min" ["key", "default"] 0 ⟨[], []⟩ = pure [none, none] from rfl) ?_)
  show wpAny _ A.in1 (newTuple [a, b] >>= _) _ _ s
  refine wpAny_bind (wpAny_newObj_type ?_)
  refine wpAny_bind (wpAny_pyIter_tuple (s := { s with heap := s.heap.push { cls := .type "tuple", data := .seq #[a, b] } }) hT ?_)
  have W := Walks.tuple (prog := prog) (w := w) (A := A.in1) hh (s.heap.push { cls := .type "tuple", data := .seq #[a, b] }).objs.size s.heap.objs.size (by rw [hsz]; exact Nat.ne_of_lt (Nat.lt_succ_self _)) #[a, b]
  refine wpAny_bind (wpAny_newObj_type ?_)
  rw [hname]
  have hne : ∀ b o, s.heap.get? b = some o → b < s.heap.objs.size := fun b o e => Heap.lt_size e
  refine wpAny_pure ⟨plainId_quiet F.plain_min_loop _, min_firstIn (h0 := s.heap) W (fun i j => if i = 1 ∧ j = 0 then k else false) ?hcmp _ ?hS ?hap (by show 0 < 2; decide) ?h00 ?hst (Heap.get?_push_size _ rfl) fun v h' tk hP hk => ?_⟩
  case hcmp =>
    intro i j vi vj s' Q' E' hji hi2 hb hi hj hq
    have e1 : i = 1 ∧ j = 0 := by
      have : i < 2 := hi2
      omega
    obtain ⟨rfl, rfl⟩ := e1
    cases hi
    cases hj
    exact hcmp s' Q' E' hb hq
  case hS =>
    show (((s.heap.push _).push _).objs.size) ∉ _
    simp only [Heap.size_push, List.mem_cons, List.not_mem_nil, or_false, not_or]
    exact ⟨Nat.succ_ne_self _, Nat.ne_of_gt (Nat.lt_succ_of_lt (Nat.lt_succ_self _))⟩
  case hap =>
    intro b o e
    have := hne b o e
    show b ∉ _ ∧ b ≠ (((s.heap.push _).push _).objs.size)
    simp only [Heap.size_push, List.mem_cons, List.not_mem_nil, or_false]
    exact ⟨Nat.ne_of_lt (Nat.lt_succ_of_lt this), Nat.ne_of_lt (Nat.lt_succ_of_lt (Nat.lt_succ_of_lt this))⟩
  case h00 => exact fun b o e => Heap.get?_push_of_some _ (Heap.get?_push_of_some _ (Heap.get?_push_of_some _ e))
  case hst => exact W.frame 0 _ _ ⟨⟨_, Heap.get?_push_size _ rfl, rfl, rfl⟩, hT.push _⟩ fun b _ o e => Heap.get?_push_of_some _ e
  have hold : ∀ c o, s.heap.get? c = some o → h'.get? c = some o := fun c o e => by
    have := hne c o e
    refine hk c o (fun hm => ?_) (fun hm => ?_) (Heap.get?_push_of_some _ (Heap.get?_push_of_some _ (Heap.get?_push_of_some _ e)))
    · simp only [Heap.size_push, List.mem_cons, List.not_mem_nil, or_false] at hm
      exact Nat.ne_of_lt (Nat.lt_succ_of_lt this) hm
    · have hm : c = (((s.heap.push _).push _).objs.size) := hm
      simp only [Heap.size_push] at hm
      exact Nat.ne_of_lt (Nat.lt_succ_of_lt (Nat.lt_succ_of_lt this)) hm
  have hv : v = if k = true then b else a := by
    have hP' : #[a, b][argBest (fun i j => if i = 1 ∧ j = 0 then k else false) 1]? = some v := hP
    cases k with
    | true => simpa [argBest] using hP'.symm
    | false => simpa [argBest] using hP'.symm
  rw [hv]
  exact h h' tk hold
section
variable {X : Cx}
/-- min(a, b) of two tuples -/
theorem call_minD (hcalm : X.calm = true) (hu : Room9 X.A) : CallR X (.builtin "min") (fun vs H Q => ∃ x y d e, vs = [x, y] ∧ Rp H x d ∧ Rp H y e ∧ PySem.W.alike d.data e.data = true ∧ d ≠ .none ∧ e ≠ .none ∧ d.depth ≤ 8 ∧ e.depth ≤ 8 ∧ ∀ z, Rp H z (if dataLt e.data d.data = true then e else d) → Q z H) := by
  intro pins s σ H xs us Q I r h
  obtain ⟨x, y, d, e, rfl, rx, ry, hal, hd, he, h1, h2, q⟩ := h
  obtain ⟨u, u', rfl, ru, ru'⟩ := vals2 r
  obtain ⟨as, ra⟩ := Dp.reads I _ x u (Rp.dp rx) ru
  obtain ⟨bs, rb⟩ := Dp.reads I _ y u' (Rp.dp ry) ru'
  have hu1 : X.A.units + 20 < cLine := hu
  have hal' : PySem.W.alike e.data d.data = true := by rw [PySem.W.alike_comm]; exact hal
  refine call_min_vals (k := dataLt e.data d.data) (I.ok.hd hcalm) (fun s' Q' E' hk hq => ?_) fun h' tk hk => ?_
  · refine rcLt_alike e.data d.data X.A.in1 s' u' u _ _ (PyProof.Rows.Reads.keeps hk rb) (PyProof.Rows.Reads.keeps hk ra) hal' (by cases e <;> simp_all [NestedKey.data]) ?_ X.prog X.w _ _ ?_
    · rw [depth_data, depth_data]
      have := Nat.min_le_left e.depth d.depth
      show X.A.units + 1 + _ < cLine
      omega
    · exact hq
  · cases hb : dataLt e.data d.data with
    | true =>
      rw [hb] at q
      exact ⟨y, H, I.kept hk, ru', q y ry⟩
    | false =>
      rw [hb] at q
      exact ⟨x, H, I.kept hk, ru, q x rx⟩
end
end R
/-! DL10: a dict whose keys are tuples or None -/
namespace R
open PySem PySem.W PySem.Spec PyProof.Rows L2 Evl

abbrev IsK (s : Shared) (k : D) (v : Value) : Prop := NestedIs s.heap k v ∧ k.depth ≤ 8
def entV (w : World) (x : D × Value × Value) : DictEntry := ⟨x.1.hash w, x.2.1, x.2.2⟩
theorem idx_one {α : Type} {xs : List (D × α)} (hn : (xs.map (·.1)).Nodup) {i j : Nat} {k : D} {p q : α} (hi : xs[i]? = some (k, p)) (hj : xs[j]? = some (k, q)) : i = j := by
  have hi' : (xs.map (·.1))[i]? = some k := by rw [List.getElem?_map, hi]; rfl
  have hj' : (xs.map (·.1))[j]? = some k := by rw [List.getElem?_map, hj]; rfl
  exact (List.getElem?_inj (List.getElem?_eq_some_iff.mp hi').1 hn).mp (hi'.trans hj'.symm)
section
variable {prog : Program} {w : World} {A : Around} {E : Value → Shared → Prop} {s : Shared}
theorem keyEq {x y : D} {a b : Value} {Q : Bool → Shared → Prop} (hu : A.units + 8 < cLine) (hx : IsK s x a) (hy : IsK s y b) (h : Q (decide (x = y)) s) : wpAny (model prog w) A (PySem.eqBool a b) Q E s :=
  eqAt_key x y A s _ _ hx.1 hy.1 (by have := Nat.min_le_left x.depth y.depth; have := hx.2; omega) _ _ _ _ (by rw [← NestedKey.decide_eq]; exact h)
theorem keyHash {k : D} {v : Value} {Q : Int → Shared → Prop} (hu : A.units + 8 < cLine) (hx : IsK s k v) (h : Q (k.hash w) { s with toks := s.toks + k.draws }) : wpAny (model prog w) A (pyHash v) Q E s :=
  pyHash_key _ _ _ _ _ hx.1 (by have := hx.2; omega) h
theorem tells_no {key : Value} {k : D} {stored : List Value} {Q : Bool → Shared → Prop} (hkey : IsK s k key) (hst : ∀ v ∈ stored, ∃ k', IsK s k' v) (h : Q false s) : wpAny (model prog w) A (tableMayTell key stored) Q E s := by
  have quiet : ∀ {k : D} {v : Value} {Q : Bool → Shared → Prop}, IsK s k v → Q true s → wpAny (model prog w) A (eqIsQuiet 8 v) Q E s := fun hk h => quiet_key _ _ 8 s hk.1 hk.2 A E _ h
  unfold tableMayTell
  split
  · exact wpAny_pure h
  · refine wpAny_bind (quiet hkey ?_)
    simp only [Bool.not_true, Bool.false_eq_true, if_false]
    refine wpAny_bind ?_
    refine wpAny_forIn_list _ (fun rest r s' => s' = s ∧ r = (none, ()) ∧ ∀ v ∈ rest, ∃ k', IsK s k' v) _ ?_ ?_ _ _ ⟨rfl, rfl, hst⟩
    · rintro x rest r s' ⟨rfl, rfl, hr⟩
      obtain ⟨k', hb⟩ := hr x List.mem_cons_self
      refine wpAny_bind (quiet hb ?_)
      simp only [Bool.not_true, Bool.false_eq_true, if_false]
      exact wpAny_pure ⟨rfl, rfl, fun v hv => hr v (List.mem_cons_of_mem _ hv)⟩
    · rintro r s' ⟨rfl, rfl, _⟩
      exact wpAny_pure h
theorem find_ref {d : Addr} {o : Obj} {es : Array DictEntry} {ep : Nat} {xs : List (D × Value × Value)} {k : D} {b : Addr} {Q : Option Nat → Shared → Prop} (hu : A.units + 8 < cLine) (hkey : IsK s k (.ref b))
    (ho : s.heap.get? d = some o) (hd : o.data = .dict es ep) (he : es.toList = xs.map (entV w)) (his : ∀ x ∈ xs, IsK s x.1 x.2.1) (hn : (xs.map (·.1)).Nodup)
    (hnone : (∀ (j : Nat) (p : Value × Value), xs[j]? ≠ some (k, p)) → Q none s) (hsome : ∀ (j : Nat) (p : Value × Value), xs[j]? = some (k, p) → Q (some j) s) :
    wpAny (model prog w) A (dictFind d (.ref b) (k.hash w)) Q E s := by
  have ent : ∀ j : Nat, es[j]? = (xs[j]?).map (entV w) := fun j => by rw [← Array.getElem?_toList, he, List.getElem?_map]
  have hsz : es.size = xs.length := by rw [← Array.length_toList, he, List.length_map]
  have haskey : ∀ (j : Nat) (p : Value × Value), xs[j]? = some (k, p) → ((es[j]?.map (·.hash)) == some (k.hash w)) = true := by
    intro j p hj
    rw [ent j, hj]
    simp [entV]
  have hmem : ∀ e ∈ es, ∃ x ∈ xs, e = entV w x := by
    intro e hin
    have : e ∈ xs.map (entV w) := he ▸ Array.mem_toList_iff.mpr hin
    obtain ⟨x, hx, rfl⟩ := List.mem_map.mp this
    exact ⟨x, hx, rfl⟩
  have hst : ∀ v ∈ (placesWithHash es.size (fun i => es[i]?.map (·.hash)) (k.hash w)).filterMap (fun i => es[i]?.map (·.key)), ∃ k', IsK s k' v := by
    intro v hv
    obtain ⟨i, _, hi⟩ := List.mem_filterMap.mp hv
    cases hei : es[i]? with
    | none => rw [hei] at hi; cases hi
    | some e =>
      rw [hei] at hi
      obtain rfl : e.key = v := by simpa using hi
      obtain ⟨x, hx, rfl⟩ := hmem e (Array.mem_of_getElem? hei)
      exact ⟨x.1, his x hx⟩
  unfold dictFind
  try with_reducible refine wpAny_holding ?_
  refine wpAny_bind (wpAny_dictEntries ho hd ?_)
  dsimp only
  have hany : ¬ (es.any fun e => e.key == Value.ref b && e.hash != k.hash w) = true := by
    rw [← Array.any_toList, List.any_eq_true]
    rintro ⟨e, hin, hc⟩
    obtain ⟨x, hx, rfl⟩ := hmem e (Array.mem_toList_iff.mp hin)
    simp only [entV, Bool.and_eq_true, beq_iff_eq, bne_iff_ne, ne_eq] at hc
    obtain ⟨hxa, hne⟩ := hc
    have := his x hx
    rw [hxa] at this
    exact hne (by rw [NestedIs.inj _ _ _ this.1 hkey.1])
  rw [if_neg (show ¬ ((Value.ref b :: (placesWithHash es.size (fun i => es[i]?.map (·.hash)) (k.hash w)).filterMap (fun i => es[i]?.map (·.key))).all carriedByValue) = true by simp [carriedByValue])]
  rw [if_neg hany]
  by_cases hone : (((placesWithHash es.size (fun i => es[i]?.map (·.hash)) (k.hash w)).filterMap (fun i => es[i]?.map (·.key))) == [Value.ref b]) = true <;>
  (first | rw [if_pos hone] | rw [if_neg hone]) <;> (first | refine wpAny_bind (wpAny_pure ?_) | refine wpAny_bind (tells_no hkey hst ?_)) <;> (
    rw [if_neg (by simp)]
    refine wpAny_bind ?_
    refine wpAny_forIn_list _
      (fun rest b s' => s' = s ∧ ∃ i hit, b = (none, hit) ∧ rest = (List.range' i (es.size - i)).filter (fun i => (es[i]?.map (·.hash)) == some (k.hash w)) ∧ i ≤ es.size ∧
        ((hit = none ∧ ∀ j p, j < i → xs[j]? ≠ some (k, p)) ∨ ∃ j p, hit = some j ∧ j < i ∧ xs[j]? = some (k, p))) _ ?_ ?_ _ _
      ⟨rfl, 0, none, rfl, by rw [placesWithHash, List.range_eq_range', Nat.sub_zero], Nat.zero_le _, .inl ⟨rfl, fun _ _ h => absurd h (Nat.not_lt_zero _)⟩⟩
    · rintro x rest b s' ⟨rfl, i, hit, rfl, hr, hi, hH⟩
      obtain ⟨hix, hxn, hpx, hskip, hrest⟩ := filter_range'_cons _ _ _ _ _ hr.symm
      have hlt : x < es.size := by omega
      have hrest' : rest = (List.range' (x + 1) (es.size - (x + 1))).filter (fun i => (es[i]?.map (·.hash)) == some (k.hash w)) := by rw [hrest]; congr 2; omega
      obtain ⟨⟨k', kv', v'⟩, hkv⟩ : ∃ y, xs[x]? = some y := ⟨xs[x]'(by rw [← hsz]; exact hlt), List.getElem?_eq_getElem _⟩
      have hib := his _ (List.mem_of_getElem? hkv)
      have hex : es[x]? = some ⟨k'.hash w, kv', v'⟩ := by rw [ent x, hkv]; rfl
      have hHx : (hit = none ∧ ∀ j p, j < x → xs[j]? ≠ some (k, p)) ∨ ∃ j p, hit = some j ∧ j < x ∧ xs[j]? = some (k, p) := by
        rcases hH with ⟨h0, hno⟩ | ⟨j, p, h1, hji, hj⟩
        · refine .inl ⟨h0, fun j p hjx hj => ?_⟩
          rcases Nat.lt_or_ge j i with h | h
          · exact hno j p h hj
          · have := hskip j h hjx
            rw [haskey j p hj] at this
            exact absurd this (by decide)
        · exact .inr ⟨j, p, h1, by omega, hj⟩
      have hstay : ¬ k' = k → ((hit = none ∧ ∀ j p, j < x + 1 → xs[j]? ≠ some (k, p)) ∨ ∃ j p, hit = some j ∧ j < x + 1 ∧ xs[j]? = some (k, p)) := by
        intro hne
        rcases hHx with ⟨h0, hno⟩ | ⟨j, p, h1, hjx, hj⟩
        · refine .inl ⟨h0, fun j p hjx hj => ?_⟩
          rcases Nat.lt_or_ge j x with h | h
          · exact hno j p h hj
          · have hjx' : j = x := by omega
            subst hjx'
            rw [hkv] at hj
            injection hj with hj
            injection hj with hj
            exact hne hj
        · exact .inr ⟨j, p, h1, by omega, hj⟩
      rw [hex]
      dsimp only
      by_cases hh : (k'.hash w == k.hash w) = true
      · rw [if_pos hh]
        refine wpAny_bind (wpAny_dictEpoch ho hd (wpAny_bind (keyEq hu hib hkey (wpAny_bind (wpAny_dictEpoch ho hd ?_)))))
        show wpAny _ _ (if (ep != ep) = true then _ else _) _ E _
        rw [if_neg (by simp)]
        by_cases hkk : k' = k
        · rw [decide_eq_true hkk]
          subst hkk
          rcases hHx with ⟨rfl, _⟩ | ⟨j, p, _, hjx, hj⟩
          · first | rw [if_pos rfl] | skip
            simp only [Option.isSome_none, Bool.false_eq_true, if_false]
            first | refine wpAny_bind (wpAny_pure ?_) | skip
            refine wpAny_bind (wpAny_rule ?_)
            split
            · exact wpAny_pure (wpAny_pure (hsome x _ hkv))
            · exact wpAny_pure ⟨rfl, x + 1, some x, rfl, hrest', hlt, .inr ⟨x, _, rfl, Nat.lt_succ_self x, hkv⟩⟩
          · exact absurd (idx_one hn hj hkv) (by omega)
        · rw [decide_eq_false hkk]
          simp only [Bool.false_eq_true, if_false]
          refine wpAny_bind (wpAny_rule ?_)
          first | rw [if_neg (by simp)] | skip
          first
            | exact wpAny_pure ⟨rfl, x + 1, hit, rfl, hrest', hlt, hstay hkk⟩
            | exact wpAny_bind (wpAny_pure (wpAny_pure ⟨rfl, x + 1, hit, rfl, hrest', hlt, hstay hkk⟩))
      · rw [if_neg hh]
        refine wpAny_pure ⟨rfl, x + 1, hit, rfl, hrest', hlt, hstay ?_⟩
        intro hkk
        rw [hkk] at hh; simp at hh
    · rintro b s' ⟨rfl, i, hit, rfl, hr, hi, hH⟩
      have hall : ∀ j, i ≤ j → j < es.size → ((es[j]?.map (·.hash)) == some (k.hash w)) = false := by
        intro j h1 h2
        have := List.filter_eq_nil_iff.mp hr.symm j (List.mem_range'_1.mpr ⟨h1, by omega⟩)
        simpa using this
      rcases hH with ⟨rfl, hno⟩ | ⟨j, p, rfl, _, hj⟩
      · refine wpAny_pure (hnone fun j p hj => ?_)
        rcases Nat.lt_or_ge j i with h | h
        · exact hno j p h hj
        · have hjl : j < es.size := by
            rw [hsz]
            rcases Nat.lt_or_ge j xs.length with h' | h'
            · exact h'
            · rw [List.getElem?_eq_none h'] at hj; exact nomatch hj
          have := hall j h hjl
          rw [haskey j p hj] at this
          exact absurd this (by decide)
      · exact wpAny_pure (hsome j p hj))
theorem find_none {d : Addr} {o : Obj} {es : Array DictEntry} {ep : Nat} {xs : List (D × Value × Value)} {k : D} {Q : Option Nat → Shared → Prop} (hu : A.units + 8 < cLine) (hkey : IsK s k .none)
    (ho : s.heap.get? d = some o) (hd : o.data = .dict es ep) (he : es.toList = xs.map (entV w)) (his : ∀ x ∈ xs, IsK s x.1 x.2.1) (hn : (xs.map (·.1)).Nodup)
    (hnone : (∀ (j : Nat) (p : Value × Value), xs[j]? ≠ some (k, p)) → Q none s) (hsome : ∀ (j : Nat) (p : Value × Value), xs[j]? = some (k, p) → Q (some j) s) :
    wpAny (model prog w) A (dictFind d .none (k.hash w)) Q E s := by
  have ent : ∀ j : Nat, es[j]? = (xs[j]?).map (entV w) := fun j => by rw [← Array.getElem?_toList, he, List.getElem?_map]
  have hsz : es.size = xs.length := by rw [← Array.length_toList, he, List.length_map]
  have haskey : ∀ (j : Nat) (p : Value × Value), xs[j]? = some (k, p) → ((es[j]?.map (·.hash)) == some (k.hash w)) = true := by
    intro j p hj
    rw [ent j, hj]
    simp [entV]
  have hmem : ∀ e ∈ es, ∃ x ∈ xs, e = entV w x := by
    intro e hin
    have : e ∈ xs.map (entV w) := he ▸ Array.mem_toList_iff.mpr hin
    obtain ⟨x, hx, rfl⟩ := List.mem_map.mp this
    exact ⟨x, hx, rfl⟩
  have hst : ∀ v ∈ (placesWithHash es.size (fun i => es[i]?.map (·.hash)) (k.hash w)).filterMap (fun i => es[i]?.map (·.key)), ∃ k', IsK s k' v := by
    intro v hv
    obtain ⟨i, _, hi⟩ := List.mem_filterMap.mp hv
    cases hei : es[i]? with
    | none => rw [hei] at hi; cases hi
    | some e =>
      rw [hei] at hi
      obtain rfl : e.key = v := by simpa using hi
      obtain ⟨x, hx, rfl⟩ := hmem e (Array.mem_of_getElem? hei)
      exact ⟨x.1, his x hx⟩
  unfold dictFind
  try with_reducible refine wpAny_holding ?_
  refine wpAny_bind (wpAny_dictEntries ho hd ?_)
  dsimp only
  by_cases hall : ((Value.none :: (placesWithHash es.size (fun i => es[i]?.map (·.hash)) (k.hash w)).filterMap (fun i => es[i]?.map (·.key))).all carriedByValue) = true
  · rw [if_pos hall]
    have old : wpAny (model prog w) A (dictWalkPlain d .none (k.hash w) es (placesWithHash es.size (fun i => es[i]?.map (·.hash)) (k.hash w))) Q E s := by
      refine wpAny_bind ?_
      refine wpAny_forIn_list _
        (fun rest b s' => s' = s ∧ b = (none, ()) ∧ ∃ i, rest = (List.range' i (es.size - i)).filter (fun i => (es[i]?.map (·.hash)) == some (k.hash w)) ∧ i ≤ es.size ∧ ∀ j p, j < i → xs[j]? ≠ some (k, p)) _ ?_ ?_ _ _
        ⟨rfl, rfl, 0, by rw [placesWithHash, List.range_eq_range', Nat.sub_zero], Nat.zero_le _, fun _ _ h => absurd h (Nat.not_lt_zero _)⟩
      · rintro x rest b s' ⟨rfl, rfl, i, hr, hi, hno⟩
        obtain ⟨hix, hxn, hpx, hskip, hrest⟩ := filter_range'_cons _ _ _ _ _ hr.symm
        have hlt : x < es.size := by omega
        have hrest' : rest = (List.range' (x + 1) (es.size - (x + 1))).filter (fun i => (es[i]?.map (·.hash)) == some (k.hash w)) := by rw [hrest]; congr 2; omega
        obtain ⟨⟨k', kv', v'⟩, hkv⟩ : ∃ y, xs[x]? = some y := ⟨xs[x]'(by rw [← hsz]; exact hlt), List.getElem?_eq_getElem _⟩
        have hib := his _ (List.mem_of_getElem? hkv)
        have hex : es[x]? = some ⟨k'.hash w, kv', v'⟩ := by rw [ent x, hkv]; rfl
        have hnext : ¬ k' = k → ∀ j p, j < x + 1 → xs[j]? ≠ some (k, p) := fun hne j p hjx hj => by
          rcases Nat.lt_or_ge j i with h | h
          · exact hno j p h hj
          · rcases Nat.lt_or_ge j x with h' | h'
            · have := hskip j h h'
              rw [haskey j p hj] at this
              exact absurd this (by decide)
            · have hjx' : j = x := by omega
              subst hjx'
              rw [hkv] at hj
              injection hj with hj
              injection hj with hj
              exact hne hj
        rw [hex]
        dsimp only
        by_cases hh : (k'.hash w == k.hash w) = true
        · rw [if_pos hh]
          refine wpAny_bind (wpAny_dictEpoch ho hd (wpAny_bind (keyEq hu hib hkey (wpAny_bind (wpAny_dictEpoch ho hd ?_)))))
          show wpAny _ _ (if (ep != ep) = true then _ else _) _ E _
          rw [if_neg (by simp)]
          by_cases hkk : k' = k
          · rw [decide_eq_true hkk]
            subst hkk
            exact wpAny_bind (wpAny_rule (wpAny_pure (wpAny_pure (hsome x _ hkv))))
          · rw [decide_eq_false hkk]
            exact wpAny_bind (wpAny_rule (wpAny_pure ⟨rfl, rfl, x + 1, hrest', hlt, hnext hkk⟩))
        · rw [if_neg hh]
          refine wpAny_pure ⟨rfl, rfl, x + 1, hrest', hlt, hnext ?_⟩
          intro hkk
          rw [hkk] at hh; simp at hh
      · rintro b s' ⟨rfl, rfl, i, hr, hi, hno⟩
        have hall : ∀ j, i ≤ j → j < es.size → ((es[j]?.map (·.hash)) == some (k.hash w)) = false := by
          intro j h1 h2
          have := List.filter_eq_nil_iff.mp hr.symm j (List.mem_range'_1.mpr ⟨h1, by omega⟩)
          simpa using this
        refine wpAny_pure (hnone fun j p hj => ?_)
        rcases Nat.lt_or_ge j i with h | h
        · exact hno j p h hj
        · have hjl : j < es.size := by
            rw [hsz]
            rcases Nat.lt_or_ge j xs.length with h' | h'
            · exact h'
            · rw [List.getElem?_eq_none h'] at hj; exact nomatch hj
          have := hall j h hjl
          rw [haskey j p hj] at this
          exact absurd this (by decide)
    exact old
  · rw [if_neg hall]
    by_cases hone : (((placesWithHash es.size (fun i => es[i]?.map (·.hash)) (k.hash w)).filterMap (fun i => es[i]?.map (·.key))) == [Value.none]) = true <;>
    (first | rw [if_pos hone] | rw [if_neg hone]) <;> (first | refine wpAny_bind (wpAny_pure ?_) | refine wpAny_bind (tells_no hkey hst ?_)) <;> (
      rw [if_neg (by simp)]
      refine wpAny_bind ?_
      refine wpAny_forIn_list _
        (fun rest b s' => s' = s ∧ ∃ i hit, b = (none, hit) ∧ rest = (List.range' i (es.size - i)).filter (fun i => (es[i]?.map (·.hash)) == some (k.hash w)) ∧ i ≤ es.size ∧
          ((hit = none ∧ ∀ j p, j < i → xs[j]? ≠ some (k, p)) ∨ ∃ j p, hit = some j ∧ j < i ∧ xs[j]? = some (k, p))) _ ?_ ?_ _ _
        ⟨rfl, 0, none, rfl, by rw [placesWithHash, List.range_eq_range', Nat.sub_zero], Nat.zero_le _, .inl ⟨rfl, fun _ _ h => absurd h (Nat.not_lt_zero _)⟩⟩
      · rintro x rest b s' ⟨rfl, i, hit, rfl, hr, hi, hH⟩
        obtain ⟨hix, hxn, hpx, hskip, hrest⟩ := filter_range'_cons _ _ _ _ _ hr.symm
        have hlt : x < es.size := by omega
        have hrest' : rest = (List.range' (x + 1) (es.size - (x + 1))).filter (fun i => (es[i]?.map (·.hash)) == some (k.hash w)) := by rw [hrest]; congr 2; omega
        obtain ⟨⟨k', kv', v'⟩, hkv⟩ : ∃ y, xs[x]? = some y := ⟨xs[x]'(by rw [← hsz]; exact hlt), List.getElem?_eq_getElem _⟩
        have hib := his _ (List.mem_of_getElem? hkv)
        have hex : es[x]? = some ⟨k'.hash w, kv', v'⟩ := by rw [ent x, hkv]; rfl
        have hHx : (hit = none ∧ ∀ j p, j < x → xs[j]? ≠ some (k, p)) ∨ ∃ j p, hit = some j ∧ j < x ∧ xs[j]? = some (k, p) := by
          rcases hH with ⟨h0, hno⟩ | ⟨j, p, h1, hji, hj⟩
          · refine .inl ⟨h0, fun j p hjx hj => ?_⟩
            rcases Nat.lt_or_ge j i with h | h
            · exact hno j p h hj
            · have := hskip j h hjx
              rw [haskey j p hj] at this
              exact absurd this (by decide)
          · exact .inr ⟨j, p, h1, by omega, hj⟩
        have hstay : ¬ k' = k → ((hit = none ∧ ∀ j p, j < x + 1 → xs[j]? ≠ some (k, p)) ∨ ∃ j p, hit = some j ∧ j < x + 1 ∧ xs[j]? = some (k, p)) := by
          intro hne
          rcases hHx with ⟨h0, hno⟩ | ⟨j, p, h1, hjx, hj⟩
          · refine .inl ⟨h0, fun j p hjx hj => ?_⟩
            rcases Nat.lt_or_ge j x with h | h
            · exact hno j p h hj
            · have hjx' : j = x := by omega
              subst hjx'
              rw [hkv] at hj
              injection hj with hj
              injection hj with hj
              exact hne hj
          · exact .inr ⟨j, p, h1, by omega, hj⟩
        rw [hex]
        dsimp only
        by_cases hh : (k'.hash w == k.hash w) = true
        · rw [if_pos hh]
          refine wpAny_bind (wpAny_dictEpoch ho hd (wpAny_bind (keyEq hu hib hkey (wpAny_bind (wpAny_dictEpoch ho hd ?_)))))
          show wpAny _ _ (if (ep != ep) = true then _ else _) _ E _
          rw [if_neg (by simp)]
          by_cases hkk : k' = k
          · rw [decide_eq_true hkk]
            subst hkk
            rcases hHx with ⟨rfl, _⟩ | ⟨j, p, _, hjx, hj⟩
            · first | rw [if_pos rfl] | skip
              simp only [Option.isSome_none, Bool.false_eq_true, if_false]
              first | refine wpAny_bind (wpAny_pure ?_) | skip
              refine wpAny_bind (wpAny_rule ?_)
              split
              · exact wpAny_pure (wpAny_pure (hsome x _ hkv))
              · exact wpAny_pure ⟨rfl, x + 1, some x, rfl, hrest', hlt, .inr ⟨x, _, rfl, Nat.lt_succ_self x, hkv⟩⟩
            · exact absurd (idx_one hn hj hkv) (by omega)
          · rw [decide_eq_false hkk]
            simp only [Bool.false_eq_true, if_false]
            refine wpAny_bind (wpAny_rule ?_)
            first | rw [if_neg (by simp)] | skip
            first
              | exact wpAny_pure ⟨rfl, x + 1, hit, rfl, hrest', hlt, hstay hkk⟩
              | exact wpAny_bind (wpAny_pure (wpAny_pure ⟨rfl, x + 1, hit, rfl, hrest', hlt, hstay hkk⟩))
        · rw [if_neg hh]
          refine wpAny_pure ⟨rfl, x + 1, hit, rfl, hrest', hlt, hstay ?_⟩
          intro hkk
          rw [hkk] at hh; simp at hh
      · rintro b s' ⟨rfl, i, hit, rfl, hr, hi, hH⟩
        have hall : ∀ j, i ≤ j → j < es.size → ((es[j]?.map (·.hash)) == some (k.hash w)) = false := by
          intro j h1 h2
          have := List.filter_eq_nil_iff.mp hr.symm j (List.mem_range'_1.mpr ⟨h1, by omega⟩)
          simpa using this
        rcases hH with ⟨rfl, hno⟩ | ⟨j, p, rfl, _, hj⟩
        · refine wpAny_pure (hnone fun j p hj => ?_)
          rcases Nat.lt_or_ge j i with h | h
          · exact hno j p h hj
          · have hjl : j < es.size := by
              rw [hsz]
              rcases Nat.lt_or_ge j xs.length with h' | h'
              · exact h'
              · rw [List.getElem?_eq_none h'] at hj; exact nomatch hj
            have := hall j h hjl
            rw [haskey j p hj] at this
            exact absurd this (by decide)
        · exact wpAny_pure (hsome j p hj))
end
end R
/-! DL11: the mixed dict: d[k] = v with k a tuple or None; k not in d with k a tuple -/
namespace R
open PySem PySem.W PySem.Spec PyProof.Rows L2 Evl

abbrev EntB (H : Hp) (p : D × V) (q : D × Value × Value) : Prop := p.1 = q.1 ∧ (∃ kv, RelV kv q.2.1 ∧ Rp H kv p.1) ∧ p.1.depth ≤ 8 ∧ RelV p.2 q.2.2
def BctO (w : World) (H : Hp) (d : Addr) (o : Obj) (kvs : List (D × V)) : Prop :=
  H d = some (xO d o) ∧ (d == sysModules) = false ∧ o.ExactDict ∧ kvs.length ≤ sizeLine ∧ ∃ es ep, o.data = .dict es ep ∧ ∃ xs : List (D × Value × Value), es.toList = xs.map (entV w) ∧ (xs.map (·.1)).Nodup ∧ Paired (EntB H) kvs xs
def Bct (w : World) (H : Hp) (d : Addr) (kvs : List (D × V)) : Prop := ∃ o, BctO w H d o kvs
section
variable {w : World} {H H' : Hp} {d : Addr} {o : Obj} {kvs : List (D × V)}
theorem entb_tk {l : List (D × V)} {m : List (D × Value × Value)} (k : Tk H H') (h : Paired (EntB H) l m) : Paired (EntB H') l m := Paired.mapP h fun _ _ q => ⟨q.1, let ⟨kv, a, b⟩ := q.2.1; ⟨kv, a, Rp.tk k b⟩, q.2.2⟩
theorem Bct.ex (e : Ex H H') (h : Bct w H d kvs) : Bct w H' d kvs := by
  obtain ⟨o, h1, h2, h3, h4, es, ep, h5, xs, h6, h7, h8⟩ := h
  exact ⟨o, e _ _ h1, h2, h3, h4, es, ep, h5, xs, h6, h7, entb_tk (Tk.of e) h8⟩
theorem BctO.empty (h : DctO w H d o []) : BctO w H d o [] := by
  obtain ⟨h1, h2, h3, h4, es, ep, h5, xs, h6, h7, h8⟩ := h
  cases h8
  exact ⟨h1, h2, h3, h4, es, ep, h5, [], h6, List.nodup_nil, .nil⟩
theorem entb_none {l : List (D × V)} {m : List (D × Value × Value)} (r : Paired (EntB H) l m) {k : D} : (valV l k = none ↔ ∀ (j : Nat) (p : Value × Value), m[j]? ≠ some (k, p)) := by
  induction r with
  | nil => exact ⟨fun _ j p h => by simp at h, fun _ => rfl⟩
  | @cons a b as bs h t ih =>
    obtain ⟨h1, _⟩ := h
    by_cases e : a.1 = k
    · rw [valV_pos e]
      refine ⟨(fun z => nomatch z), fun z => absurd ?_ (z 0 b.2)⟩
      show some b = _
      rw [← e, h1]
    · rw [valV_neg e, ih]
      refine ⟨fun z j p hj => ?_, fun z j p hj => z (j + 1) p (by simpa using hj)⟩
      cases j with
      | zero =>
        simp at hj
        exact e (h1.trans (by rw [hj]))
      | succ j => exact z j p (by simpa using hj)
end
section
variable {X : Cx} {pins : List (Addr × Obj)} {σ : L2.St} {H : Hp} {s : Shared} {d : Addr} {kvs : List (D × V)} {y v : V} {u r : Value} {k : D} {A : Around} {E : Value → Shared → Prop}
theorem entb_is {l : List (D × V)} {m : List (D × Value × Value)} (I : Inv X pins σ H s) (h : Paired (EntB H) l m) : ∀ x ∈ m, IsK s x.1 x.2.1 := by
  induction h with
  | nil => intro x hx; exact nomatch hx
  | @cons p q ps qs hq t ih =>
    intro x hx
    rcases List.mem_cons.mp hx with e | hx
    · subst e
      obtain ⟨kv, a, b⟩ := hq.2.1
      exact ⟨by rw [← hq.1]; exact Rp.is I.hok b a, by rw [← hq.1]; exact hq.2.2.1⟩
    · exact ih x hx
theorem b_at {o : Obj} (I : Inv X pins σ H s) (h : BctO X.w H d o kvs) : s.heap.get? d = some o := (show _ ∧ _ from I.hok d _ h.1).1
/-- a find by a tuple or None -/
theorem b_find {A : Around} {kv : Value} {o : Obj} {es : Array DictEntry} {ep : Nat} {xs : List (D × Value × Value)} {Q : Option Nat → Shared → Prop} (hkv : (∃ b, kv = .ref b) ∨ kv = .none) (hu : A.units + 8 < cLine) (hkey : IsK s k kv)
    (ho : s.heap.get? d = some o) (hd : o.data = .dict es ep) (he : es.toList = xs.map (entV X.w)) (his : ∀ x ∈ xs, IsK s x.1 x.2.1) (hn : (xs.map (·.1)).Nodup)
    (hnone : (∀ (j : Nat) (p : Value × Value), xs[j]? ≠ some (k, p)) → Q none s) (hsome : ∀ (j : Nat) (p : Value × Value), xs[j]? = some (k, p) → Q (some j) s) :
    wpAny (model X.prog X.w) A (dictFind d kv (k.hash X.w)) Q E s := by
  rcases hkv with ⟨b, rfl⟩ | rfl
  · exact find_ref hu hkey ho hd he his hn hnone hsome
  · exact find_none hu hkey ho hd he his hn hnone hsome
theorem b_notIn {Q : Value → Shared → Prop} (hu : Room9 A) (I : Inv X pins σ H s) (g : Bct X.w H d kvs) (hk : KeyAt H y k) (ry : RelV y u) (h : ∀ s', Inv X pins σ H s' → Q (.bool (!(valV kvs k).isSome)) s') :
    wpAny (model X.prog X.w) A (compareOp .NotIn u (.ref d)) Q E s := by
  obtain ⟨o, g⟩ := g
  obtain ⟨b, rfl⟩ := hk.ref
  cases (show u = Value.ref b from ry)
  have ho := b_at I g
  obtain ⟨_, hs, hx, _, es, ep, hdt, xs, he, hn, rel⟩ := g
  have hT : s.TypeIs (.ref d) "dict" := ⟨o, ho, hx.1⟩
  have hu1 : A.units + 20 < cLine := hu
  have hkey : IsK s k (.ref b) := ⟨Rp.is I.hok hk.rp rfl, hk.dep⟩
  show wpAny _ _ (do return .bool (!(← contains (.ref d) (.ref b)))) Q E s
  refine wpAny_bind ?_
  unfold contains
  try with_reducible refine wpAny_holding ?_
  refine wpAny_bind (wpAny_specialOf hT slot_dict_contains.lookup ?_)
  show wpAny _ _ (if (some (Value.builtin "dict.__contains__") == some Value.none) = true then _ else _) _ E s
  rw [if_neg (by rw [beq_builtin_none]; exact Bool.false_ne_true)]
  refine wpAny_bind (wpAny_callSpecialUnlessNone?_slot (name := Str.ofString "__contains__") hT slot_dict_contains
    (wpAny_call_entry slot_dict_contains hT entry_dict_contains ?_ (args_dict_contains _ _)))
  show wpAny _ _ (dictGet d (.ref b) >>= _) _ _ s
  refine wpAny_bind ?_
  unfold dictGet
  try with_reducible refine wpAny_holding ?_
  refine wpAny_bind (keyHash (by show A.units + 1 + 8 < cLine; omega) hkey (wpAny_bind (b_find (X := X) (A := A.in1) (.inl ⟨b, rfl⟩) (s := { s with toks := s.toks + k.draws }) (by show A.units + 1 + 8 < cLine; omega) hkey ho hdt he (entb_is (I.tok (s.toks + k.draws)) rel) hn (fun hno => ?_) fun j p hj => ?_)))
  · refine wpAny_pure ?_
    show wpAny _ _ (Builtin.Dict.pendingKey? d (.ref b) >>= _) _ _ _
    have hq : valV kvs k = none := (entb_none rel).mpr hno
    rw [hq] at h
    exact wpAny_bind (wpAny_pendingKey_other hs (wpAny_pure ⟨_, rfl, wpAny_truthy_bool (wpAny_pure (h _ (I.tok _)))⟩))
  · refine wpAny_bind (wpAny_dictEntries (s := { s with toks := s.toks + k.draws }) ho hdt ?_)
    have hej : es[j]? = some (entV X.w (k, p)) := by rw [← Array.getElem?_toList, he, List.getElem?_map, hj]; rfl
    rw [hej]
    refine wpAny_pure ?_
    show wpAny _ _ (ret (.bool true)) _ _ _
    have hq : (valV kvs k).isSome = true := by
      cases hv : valV kvs k with
      | none => exact absurd hj ((entb_none rel).mp hv j p)
      | some v => rfl
    rw [hq] at h
    exact wpAny_pure ⟨_, rfl, wpAny_truthy_bool (wpAny_pure (h _ (I.tok _)))⟩
/-- the key is a tuple or None -/
structure KeyB (H : Hp) (y : V) (k : D) : Prop where
  rp : Rp H y k
  tup : (∃ b, y = .ref b) ∨ y = .non
  dep : k.depth ≤ 8
theorem b_setItem {Q : Unit → Shared → Prop} (hu : Room9 A) (I : Inv X pins σ H s) (g : Bct X.w H d kvs) (hk : KeyB H y k) (hl : kvs.length < 100000) (ry : RelV y u) (rv : RelV v r)
    (h : ∀ s' o', Inv X pins σ (upd H d (xO d o')) s' → BctO X.w (upd H d (xO d o')) d o' (putK kvs k v) → Q () s') : wpAny (model X.prog X.w) A (setItem (.ref d) u r) Q E s := by
  obtain ⟨o, g⟩ := g
  have ho := b_at I g
  obtain ⟨hHd, hsm, hx, _, es, ep, hdt, xs, he, hn, rel⟩ := g
  have hT : s.TypeIs (.ref d) "dict" := ⟨o, ho, hx.1⟩
  have hu1 : A.units + 20 < cLine := hu
  have hkey : IsK s k u := ⟨Rp.is I.hok hk.rp ry, hk.dep⟩
  have hkv : (∃ b, u = .ref b) ∨ u = .none := by
    rcases hk.tup with ⟨b, rfl⟩ | rfl
    · exact .inl ⟨b, ry⟩
    · exact .inr ry
  have hz : xs.length ≤ sizeLine := by rw [← Paired.length rel]; exact sz_of (Nat.le_of_lt hl)
  have hez : es.size = xs.length := by rw [← Array.length_toList, he, List.length_map]
  have ent : ∀ j : Nat, es[j]? = (xs[j]?).map (entV X.w) := fun j => by rw [← Array.getElem?_toList, he, List.getElem?_map]
  have nt : ∀ ys, H d ≠ some (.tup ys) := fun ys e => by rw [hHd] at e; cases e
  unfold setItem
  try with_reducible refine wpAny_holding ?_
  refine wpAny_bind (wpAny_sequenceKey hT (by decide) ?_)
  refine wpAny_bind (wpAny_callSpecial?_slot (name := Str.ofString "__setitem__") hT slot_dict_setitem
    (wpAny_call_entry slot_dict_setitem hT entry_dict_setitem ?_ (args_dict_setitem _ _ _)))
  show wpAny _ _ (Builtin.Dict.notOrdered "__setitem__" ⟨[.ref d, u, r], []⟩ >>= _) _ _ s
  refine wpAny_bind (wpAny_notOrdered_dict hT ?_)
  show wpAny _ _ (dictSet d u r >>= _) _ _ s
  refine wpAny_bind ?_
  unfold dictSet
  try with_reducible refine wpAny_holding ?_
  refine wpAny_bind (keyHash (by show A.units + 1 + 8 < cLine; omega) hkey ?_)
  unfold dictSetHashed
  try with_reducible refine wpAny_holding ?_
  refine wpAny_bind (b_find (X := X) (A := A.in1) hkv (s := { s with toks := s.toks + k.draws }) (by show A.units + 1 + 8 < cLine; omega) hkey ho hdt he (entb_is (I.tok (s.toks + k.draws)) rel) hn (fun hno => ?_) fun j p hj => ?_)
  · have hq : valV kvs k = none := (entb_none rel).mpr hno
    refine wpAny_bind (wpAny_rule (wpAny_updateDictKeys (hz := by omega) (s := { s with toks := s.toks + k.draws }) ho hdt ?_))
    refine wpAny_pure ⟨.none, rfl, wpAny_pure ?_⟩
    have ho' := Heap.get?_update_self (Obj.mapDictKeys (·.push ⟨k.hash X.w, u, r⟩)) ho (Obj.isFreed_of_dict (Obj.data_mapDictKeys hdt _))
    refine h _ _ (d_write (t' := s.toks + k.draws) (I.tok (s.toks + k.draws)) (by rw [hHd]; exact True.intro) (Heap.SameBut.update ..) ⟨_, ho'⟩ ⟨ho', ⟨_, ho'⟩, fun h1 h2 e k => k _ e⟩) ?_
    rw [putK_new v hq]
    refine ⟨upd_same, hsm, hx.mapDictKeys _, by rw [List.length_append]; exact sz_of (by simp; omega), _, ep + 1, Obj.data_mapDictKeys hdt _, xs ++ [(k, u, r)], ?_, ?_, ?_⟩
    · simp [he, entV]
    · rw [List.map_append, List.nodup_append]
      refine ⟨hn, by simp, ?_⟩
      intro x hx y hy
      simp only [List.map_cons, List.map_nil, List.mem_singleton] at hy
      subst hy
      intro e
      obtain ⟨z, hz, ez⟩ := List.mem_map.mp hx
      obtain ⟨j, hj⟩ := List.mem_iff_getElem?.mp hz
      exact hno j z.2 (by rw [hj, ← e, ← ez])
    · exact Paired.snoc (entb_tk (ExB.upd nt).2 rel) ⟨rfl, ⟨y, ry, Rp.tk (ExB.upd nt).2 hk.rp⟩, hk.dep, rv⟩
  · have hlt : j < xs.length := (List.getElem?_eq_some_iff.mp hj).1
    refine wpAny_bind (wpAny_rule (wpAny_bind (wpAny_updateDict (s := { s with toks := s.toks + k.draws }) ho hdt (wpAny_point ?_))))
    refine wpAny_pure ⟨.none, rfl, wpAny_pure ?_⟩
    have ho' := Heap.get?_update_self (Obj.mapDict (·.modify j fun e => { e with val := r })) ho (Obj.isFreed_of_dict (Obj.data_mapDict hdt _))
    refine h _ _ (d_write (t' := s.toks + k.draws) (I.tok (s.toks + k.draws)) (by rw [hHd]; exact True.intro) (Heap.SameBut.update ..) ⟨_, ho'⟩ ⟨ho', ⟨_, ho'⟩, fun h1 h2 e k => k _ e⟩) ?_
    have hsome : (valV kvs k).isSome = true := by
      cases hv : valV kvs k with
      | none => exact absurd hj ((entb_none rel).mp hv j p)
      | some v => rfl
    have ep' : putK kvs k v = kvs.map fun kv => if kv.1 = k then (kv.1, v) else kv := by
      unfold putK
      rw [valV_any, hsome, if_pos rfl]
    rw [ep']
    refine ⟨upd_same, hsm, hx.mapDict _, by rw [List.length_map]; exact sz_of (Nat.le_of_lt hl), _, ep, Obj.data_mapDict hdt _, xs.map (fun x => if x.1 = k then (x.1, x.2.1, r) else x), ?_, ?_, ?_⟩
    · rw [Array.toList_modify, he]
      refine List.ext_getElem? fun i => ?_
      rw [List.getElem?_modify, List.getElem?_map, List.getElem?_map, List.getElem?_map]
      cases hi : xs[i]? with
      | none => simp
      | some x =>
        by_cases hij : j = i
        · subst hij
          rw [hj] at hi
          cases hi
          simp [entV]
        · have hne : ¬ x.1 = k := fun e => hij (idx_one hn hj (by rw [hi, ← e]))
          simp [hij, hne]
    · rw [List.map_map]
      have e : ((fun x : D × Value × Value => x.1) ∘ fun x => if x.1 = k then (x.1, x.2.1, r) else x) = fun x => x.1 := by
        funext x
        show (if x.1 = k then (x.1, x.2.1, r) else x).1 = x.1
        split <;> rfl
      rw [e]
      exact hn
    · exact entb_map (entb_tk (ExB.upd nt).2 rel) rv
where
  entb_map {H : Hp} {v : V} {r : Value} {k : D} : ∀ {l : List (D × V)} {m : List (D × Value × Value)}, Paired (EntB H) l m → RelV v r → Paired (EntB H) (l.map fun kv => if kv.1 = k then (kv.1, v) else kv) (m.map fun x => if x.1 = k then (x.1, x.2.1, r) else x)
    | _, _, .nil, _ => .nil
    | _, _, @Paired.cons _ _ _ p q _ _ h t, rv => by
      rw [List.map_cons, List.map_cons]
      refine .cons ?_ (entb_map t rv)
      obtain ⟨h1, h2, h3, h4⟩ := h
      by_cases z : p.1 = k
      · rw [if_pos z, if_pos (h1 ▸ z)]; exact ⟨h1, h2, h3, rv⟩
      · rw [if_neg z, if_neg (fun y => z (h1.trans y))]; exact ⟨h1, h2, h3, h4⟩
end
section
variable {X : Cx} {o i value : Expr} {pos pos' : Pos} {td ty tv : TE}
def rNotInB (w : World) : R2 := fun y x H Q => ∃ d kvs k, x = .ref d ∧ Bct w H d kvs ∧ KeyAt H y k ∧ Q (.bl (!(valV kvs k).isSome)) H
theorem op_notinB (hu : Room9 X.A) : OpR X (compareOp .NotIn) (rNotInB X.w) := by
  intro pins s σ H y x u v Q I ry rx h
  obtain ⟨d, kvs, k, rfl, g, hk, q⟩ := h
  cases rx
  exact b_notIn hu I g hk ry fun s' I' => ⟨.bl _, H, I', rfl, q⟩
def sDPutB (w : World) (td ty tv : TE) : TS := fun D σ H => tv σ H fun v H1 => td σ H1 fun x H2 => ty σ H2 fun y H3 => ∃ d kvs k, x = .ref d ∧ Bct w H3 d kvs ∧ KeyB H3 y k ∧ kvs.length < 100000 ∧
  ∀ o', BctO w (upd H3 d (xO d o')) d o' (putK kvs k v) → D.nx σ (upd H3 d (xO d o'))
theorem ps_dputB (hu : Room9 X.A) (ho : PE X o td) (hi : PE X i ty) (hv : PE X value tv) (hs : swapsWith value (some (.Subscript o i pos')) pos.line X.env = pure false := by rfl) :
    PS X (.Assign [.Subscript o i pos'] value pos) (sDPutB X.w td ty tv) := by
  refine ⟨fun pins s σ H D I h => ?_⟩
  refine wpAny_Assign_Subscript (thn (hv.run pins s σ H _ I h) fun r s1 ⟨v, H1, I1, rv, q1⟩ => thn (ho.run pins s1 σ H1 _ I1 q1) fun u s2 ⟨x, H2, I2, rx, q2⟩ => thn (hi.run pins s2 σ H2 _ I2 q2) fun iv s3 ⟨y, H3, I3, ry, d, kvs, k, ex, g, hk, hl, q3⟩ => ?_) hs
  subst ex
  obtain rfl : u = Value.ref d := rx
  exact b_setItem hu I3 g hk hl ry rv fun s4 o' I4 g4 => ⟨σ, _, I4, q3 o' g4⟩
end
end R
/-! WB: the text by places, its scopes, what the top leaves -/
namespace R
open PySem L2 Evl
def top (i : Nat) : Stmt := PySem.Challenge.pw_renamehall_k94_whole_blind_or_not.main.body.getD i (.Pass ⟨0, 0, 0, 0⟩)

abbrev s_alike : Stmt := top 11
abbrev n_alike : List Str := ["one", "other"]
theorem c_alike : FnScope n_alike ["one", "other"] (defScope s_alike) := ⟨rfl, rfl, rfl, by decide +kernel, rfl, by decide +kernel, by decide +kernel⟩
abbrev s_held_as : Stmt := top 12
abbrev n_held_as : List Str := ["name", "blind"]
theorem c_held_as : FnScope n_held_as ["name", "blind"] (defScope s_held_as) := ⟨rfl, rfl, rfl, by decide +kernel, rfl, by decide +kernel, by decide +kernel⟩
abbrev s_going : Stmt := top 14
abbrev n_going : List Str := ["hall", "wishes", "marks", "places", "path", "wished", "at", "place"]
theorem c_going : FnScope n_going ["hall", "wishes"] (defScope s_going) := ⟨rfl, rfl, rfl, by decide +kernel, rfl, by decide +kernel, by decide +kernel⟩
abbrev s_meetings : Stmt := top 15
abbrev n_meetings : List Str := ["hall", "wishes", "places", "blind", "there", "path", "place", "found", "paths", "k", "other"]
theorem c_meetings : FnScope n_meetings ["hall", "wishes"] (defScope s_meetings) := ⟨rfl, rfl, rfl, by decide +kernel, rfl, by decide +kernel, by decide +kernel⟩
abbrev s_ask_wishes : Stmt := top 16
abbrev n_ask_wishes : List Str := ["hall", "wishes", "found"]
theorem c_ask_wishes : FnScope n_ask_wishes ["hall", "wishes"] (defScope s_ask_wishes) := ⟨rfl, rfl, rfl, by decide +kernel, rfl, by decide +kernel, by decide +kernel⟩
abbrev s_path_then : Stmt := top 17
abbrev n_path_then : List Str := ["places", "path", "place"]
theorem c_path_then : FnScope n_path_then ["places", "path"] (defScope s_path_then) := ⟨rfl, rfl, rfl, by decide +kernel, rfl, by decide +kernel, by decide +kernel⟩
abbrev s_paths_then : Stmt := top 18
abbrev n_paths_then : List Str := ["hall", "wishes", "places", "found", "path"]
theorem c_paths_then : FnScope n_paths_then ["hall", "wishes"] (defScope s_paths_then) := ⟨rfl, rfl, rfl, by decide +kernel, rfl, by decide +kernel, by decide +kernel⟩
abbrev s_goal : Stmt := top 19
abbrev n_goal : List Str := ["hall", "wishes", "paths", "path", "mark"]
theorem c_goal : FnScope n_goal ["hall", "wishes"] (defScope s_goal) := ⟨rfl, rfl, rfl, by decide +kernel, rfl, by decide +kernel, by decide +kernel⟩
abbrev s_ahead_of : Stmt := top 23
abbrev n_ahead_of : List Str := ["hall", "wishes", "path", "place", "moving", "paths", "ahead", "there"]
theorem c_ahead_of : FnScope n_ahead_of ["hall", "wishes"] (defScope s_ahead_of) := ⟨rfl, rfl, rfl, by decide +kernel, rfl, by decide +kernel, by decide +kernel⟩
abbrev s_gone_along : Stmt := top 24
abbrev n_gone_along : List Str := ["ahead", "first", "found", "there"]
theorem c_gone_along : FnScope n_gone_along ["ahead", "first"] (defScope s_gone_along) := ⟨rfl, rfl, rfl, by decide +kernel, rfl, by decide +kernel, by decide +kernel⟩
abbrev s_firsts : Stmt := top 25
abbrev n_firsts : List Str := ["ahead", "behind", "path"]
theorem c_firsts : FnScope n_firsts ["ahead"] (defScope s_firsts) := ⟨rfl, rfl, rfl, by decide +kernel, rfl, by decide +kernel, by decide +kernel⟩
abbrev s_chains : Stmt := top 26
abbrev n_chains : List Str := ["hall", "wishes", "ahead", "first"]
theorem c_chains : FnScope n_chains ["hall", "wishes"] (defScope s_chains) := ⟨rfl, rfl, rfl, by decide +kernel, rfl, by decide +kernel, by decide +kernel⟩
abbrev s_rings : Stmt := top 27
abbrev n_rings : List Str := ["hall", "wishes", "ahead", "seen", "first", "path", "found", "ring", "other"]
theorem c_rings : FnScope n_rings ["hall", "wishes"] (defScope s_rings) := ⟨rfl, rfl, rfl, by decide +kernel, rfl, by decide +kernel, by decide +kernel⟩
abbrev s_row_for : Stmt := top 30
abbrev n_row_for : List Str := ["hall", "wishes", "sorter", "chain", "path", "ring"]
theorem c_row_for : FnScope n_row_for ["hall", "wishes"] (defScope s_row_for) := ⟨rfl, rfl, rfl, by decide +kernel, rfl, by decide +kernel, by decide +kernel⟩
abbrev s_gone_on : Stmt := top 31
abbrev n_gone_on : List Str := ["paths", "path", "place", "found", "first", "now"]
theorem c_gone_on : FnScope n_gone_on ["paths", "path", "place"] (defScope s_gone_on) := ⟨rfl, rfl, rfl, by decide +kernel, rfl, by decide +kernel, by decide +kernel⟩
abbrev s_does : Stmt := top 32
abbrev n_does : List Str := ["hall", "wishes", "row", "due", "paths", "first", "copied", "path", "place"]
theorem c_does : FnScope n_does ["hall", "wishes", "row"] (defScope s_does) := ⟨rfl, rfl, rfl, by decide +kernel, rfl, by decide +kernel, by decide +kernel⟩
abbrev s_l_draw : Stmt := top 34
abbrev n_l_draw : List Str := ["_law_feed", "_law_many", "_law_cell", "_law_number", "_law_found"]
theorem c_l_draw : FnScope n_l_draw ["_law_feed", "_law_many"] (defScope s_l_draw) := ⟨rfl, rfl, rfl, by decide +kernel, rfl, by decide +kernel, by decide +kernel⟩
abbrev s_l_name_signs : Stmt := top 35
abbrev n_l_name_signs : List Str := []
theorem c_l_name_signs : FnScope n_l_name_signs [] (defScope s_l_name_signs) := ⟨rfl, rfl, rfl, by decide +kernel, rfl, by decide +kernel, by decide +kernel⟩
abbrev s_l_text : Stmt := top 37
abbrev n_l_text : List Str := ["_law_feed", "_law_signs", "_law_size", "_law_k"]
theorem c_l_text : FnScope n_l_text ["_law_feed", "_law_signs", "_law_size"] (defScope s_l_text) := ⟨rfl, rfl, rfl, by decide +kernel, rfl, by decide +kernel, by decide +kernel⟩
abbrev s_l_a_name : Stmt := top 38
abbrev n_l_a_name : List Str := ["_law_feed", "_law_way"]
theorem c_l_a_name : FnScope n_l_a_name ["_law_feed"] (defScope s_l_a_name) := ⟨rfl, rfl, rfl, by decide +kernel, rfl, by decide +kernel, by decide +kernel⟩
abbrev s_l_fold : Stmt := top 39
abbrev n_l_fold : List Str := ["_law_name", "_law_blind"]
theorem c_l_fold : FnScope n_l_fold ["_law_name", "_law_blind"] (defScope s_l_fold) := ⟨rfl, rfl, rfl, by decide +kernel, rfl, by decide +kernel, by decide +kernel⟩
abbrev s_l_rows : Stmt := top 40
abbrev n_l_rows : List Str := ["_law_feed", "_law_blind", "_law_most", "_law_rows_here", "_law_drawers", "_law_there", "_law_k", "_law_drawer", "_law_name", "_law_mark"]
theorem c_l_rows : FnScope n_l_rows ["_law_feed", "_law_blind", "_law_most"] (defScope s_l_rows) := ⟨rfl, rfl, rfl, by decide +kernel, rfl, by decide +kernel, by decide +kernel⟩
abbrev s_l_other_case : Stmt := top 41
abbrev n_l_other_case : List Str := ["_law_feed", "_law_name", "_law_sign"]
theorem c_l_other_case : FnScope n_l_other_case ["_law_feed", "_law_name"] (defScope s_l_other_case) := ⟨rfl, rfl, rfl, by decide +kernel, rfl, by decide +kernel, by decide +kernel⟩
abbrev s_l_some_of : Stmt := top 42
abbrev n_l_some_of : List Str := ["_law_feed", "_law_things", "_law_many", "_law_left", "_law_found"]
theorem c_l_some_of : FnScope n_l_some_of ["_law_feed", "_law_things", "_law_many"] (defScope s_l_some_of) := ⟨rfl, rfl, rfl, by decide +kernel, rfl, by decide +kernel, by decide +kernel⟩
abbrev s_l_free_place : Stmt := top 43
abbrev n_l_free_place : List Str := ["_law_feed", "_law_marks", "_law_path", "_law_taken", "_law_blind", "_law_drawer", "_law_drawers", "_law_k", "_law_name", "_law_one"]
theorem c_l_free_place : FnScope n_l_free_place ["_law_feed", "_law_marks", "_law_path", "_law_taken", "_law_blind"] (defScope s_l_free_place) := ⟨rfl, rfl, rfl, by decide +kernel, rfl, by decide +kernel, by decide +kernel⟩
abbrev s_l_good_wishes : Stmt := top 44
abbrev n_l_good_wishes : List Str := ["_law_feed", "_law_rows_here", "_law_blind", "_law_most", "_law_marks", "_law_wishes", "_law_taken", "_law_path", "_law_turn", "_law_left", "_law_some", "_law_drawer", "_law_way", "_law_last", "_law_one", "_law_place", "_law_name"]
theorem c_l_good_wishes : FnScope n_l_good_wishes ["_law_feed", "_law_rows_here", "_law_blind", "_law_most"] (defScope s_l_good_wishes) := ⟨rfl, rfl, rfl, by decide +kernel, rfl, by decide +kernel, by decide +kernel⟩
abbrev s_l_in_order : Stmt := top 45
abbrev n_l_in_order : List Str := ["_law_feed", "_law_wishes", "_law_path"]
theorem c_l_in_order : FnScope n_l_in_order ["_law_feed", "_law_wishes"] (defScope s_l_in_order) := ⟨rfl, rfl, rfl, by decide +kernel, rfl, by decide +kernel, by decide +kernel⟩
abbrev s_l_small : Stmt := top 47
abbrev n_l_small : List Str := ["_law_path", "_law_name"]
theorem c_l_small : FnScope n_l_small ["_law_path"] (defScope s_l_small) := ⟨rfl, rfl, rfl, by decide +kernel, rfl, by decide +kernel, by decide +kernel⟩
abbrev s_l_pairs_only : Stmt := top 48
abbrev n_l_pairs_only : List Str := ["_law_found", "_law_one", "_law_other", "_law_place"]
theorem c_l_pairs_only : FnScope n_l_pairs_only ["_law_found"] (defScope s_l_pairs_only) := ⟨rfl, rfl, rfl, by decide +kernel, rfl, by decide +kernel, by decide +kernel⟩
abbrev s_l_turned : Stmt := top 49
abbrev n_l_turned : List Str := ["_law_pairs", "_law_one", "_law_other"]
theorem c_l_turned : FnScope n_l_turned ["_law_pairs"] (defScope s_l_turned) := ⟨rfl, rfl, rfl, by decide +kernel, rfl, by decide +kernel, by decide +kernel⟩
abbrev s_l_alike_told : Stmt := top 50
abbrev n_l_alike_told : List Str := ["_law_rows_here", "_law_wishes", "_law_seeing", "_law_blind", "_law_row"]
theorem c_l_alike_told : FnScope n_l_alike_told ["_law_rows_here", "_law_wishes"] (defScope s_l_alike_told) := ⟨rfl, rfl, rfl, by decide +kernel, rfl, by decide +kernel, by decide +kernel⟩
abbrev s_law : Stmt := top 51
abbrev n_law : List Str := ["_law_script", "_law_feed", "_law_k", "_law_rows_here", "_law_path", "_law_mark", "_law_small_here", "_law_wishes", "_law_handed", "_law_some", "_law_other", "_law_names", "_law_found", "_law_place", "_law_one", "_law_there"]
theorem c_law : FnScope n_law ["_law_script"] (defScope s_law) := ⟨rfl, rfl, rfl, by decide +kernel, rfl, by decide +kernel, by decide +kernel⟩
abbrev s_H___init__ : Stmt := inClass (top 21) 0
abbrev n_H___init__ : List Str := ["self", "rows", "blind", "drawers", "path", "mark", "at"]
theorem c_H___init__ : FnScope n_H___init__ ["self", "rows", "blind"] (defScope s_H___init__) := ⟨rfl, rfl, rfl, by decide +kernel, rfl, by decide +kernel, by decide +kernel⟩
abbrev s_H_rows : Stmt := inClass (top 21) 1
abbrev n_H_rows : List Str := ["self", "path"]
theorem c_H_rows : FnScope n_H_rows ["self"] (defScope s_H_rows) := ⟨rfl, rfl, rfl, by decide +kernel, rfl, by decide +kernel, by decide +kernel⟩
abbrev s_H_is_blind : Stmt := inClass (top 21) 2
abbrev n_H_is_blind : List Str := ["self"]
theorem c_H_is_blind : FnScope n_H_is_blind ["self"] (defScope s_H_is_blind) := ⟨rfl, rfl, rfl, by decide +kernel, rfl, by decide +kernel, by decide +kernel⟩
abbrev s_H_there : Stmt := inClass (top 21) 3
abbrev n_H_there : List Str := ["self", "place", "path"]
theorem c_H_there : FnScope n_H_there ["self", "place"] (defScope s_H_there) := ⟨rfl, rfl, rfl, by decide +kernel, rfl, by decide +kernel, by decide +kernel⟩
abbrev s_H_ask_thing : Stmt := inClass (top 21) 4
abbrev n_H_ask_thing : List Str := ["self", "path"]
theorem c_H_ask_thing : FnScope n_H_ask_thing ["self", "path"] (defScope s_H_ask_thing) := ⟨rfl, rfl, rfl, by decide +kernel, rfl, by decide +kernel, by decide +kernel⟩
abbrev s_H_ask_drawer : Stmt := inClass (top 21) 5
abbrev n_H_ask_drawer : List Str := ["self", "path"]
theorem c_H_ask_drawer : FnScope n_H_ask_drawer ["self", "path"] (defScope s_H_ask_drawer) := ⟨rfl, rfl, rfl, by decide +kernel, rfl, by decide +kernel, by decide +kernel⟩
abbrev s_H_is_drawer : Stmt := inClass (top 21) 7
abbrev n_H_is_drawer : List Str := ["self", "path"]
theorem c_H_is_drawer : FnScope n_H_is_drawer ["self", "path"] (defScope s_H_is_drawer) := ⟨rfl, rfl, rfl, by decide +kernel, rfl, by decide +kernel, by decide +kernel⟩
abbrev s_H_move : Stmt := inClass (top 21) 11
abbrev n_H_move : List Str := ["self", "path", "place", "there", "found", "other", "mark"]
theorem c_H_move : FnScope n_H_move ["self", "path", "place"] (defScope s_H_move) := ⟨rfl, rfl, rfl, by decide +kernel, rfl, by decide +kernel, by decide +kernel⟩
abbrev s_S___init__ : Stmt := inClass (top 29) 0
abbrev n_S___init__ : List Str := ["self", "hall", "wishes", "path", "mark"]
theorem c_S___init__ : FnScope n_S___init__ ["self", "hall", "wishes"] (defScope s_S___init__) := ⟨rfl, rfl, rfl, by decide +kernel, rfl, by decide +kernel, by decide +kernel⟩
abbrev s_S_path_now : Stmt := inClass (top 29) 1
abbrev n_S_path_now : List Str := ["self", "path", "drawer", "name"]
theorem c_S_path_now : FnScope n_S_path_now ["self", "path"] (defScope s_S_path_now) := ⟨rfl, rfl, rfl, by decide +kernel, rfl, by decide +kernel, by decide +kernel⟩
abbrev s_S_go : Stmt := inClass (top 29) 2
abbrev n_S_go : List Str := ["self", "path", "drawer", "name"]
theorem c_S_go : FnScope n_S_go ["self", "path", "drawer", "name"] (defScope s_S_go) := ⟨rfl, rfl, rfl, by decide +kernel, rfl, by decide +kernel, by decide +kernel⟩
abbrev s_S_go_home : Stmt := inClass (top 29) 3
abbrev n_S_go_home : List Str := ["self", "path", "place"]
theorem c_S_go_home : FnScope n_S_go_home ["self", "path"] (defScope s_S_go_home) := ⟨rfl, rfl, rfl, by decide +kernel, rfl, by decide +kernel, by decide +kernel⟩
abbrev s_S_spare_name : Stmt := inClass (top 29) 4
abbrev n_S_spare_name : List Str := ["self", "drawer", "names", "other", "name", "number"]
theorem c_S_spare_name : FnScope n_S_spare_name ["self", "drawer"] (defScope s_S_spare_name) := ⟨rfl, rfl, rfl, by decide +kernel, rfl, by decide +kernel, by decide +kernel⟩
abbrev s_S_go_round : Stmt := inClass (top 29) 5
abbrev n_S_go_round : List Str := ["self", "ring", "drawer", "path"]
theorem c_S_go_round : FnScope n_S_go_round ["self", "ring"] (defScope s_S_go_round) := ⟨rfl, rfl, rfl, by decide +kernel, rfl, by decide +kernel, by decide +kernel⟩

/-- a def of the top, a method: where it stands -/
structure FnAt (K : PySem.W.Frag) (mg : Str → Option Value) (x : Str) (st : Stmt) (ps : List Str) : Type where
  f : Addr
  fd : FuncData
  F : Fun K x x st f fd
  g : mg x = some (.ref f)
  b : Binds K fd ps []
structure MtAt (K : PySem.W.Frag) (C : Addr) (x qual : Str) (st : Stmt) (ps : List Str) : Type where
  f : Addr
  fd : FuncData
  F : Fun K x qual st f fd
  m : Meth K C x f
  b : Binds K fd ps []
structure Txt (K : PySem.W.Frag) (mg : Str → Option Value) : Type where
  alike : FnAt K mg "alike" s_alike ["one", "other"]
  held_as : FnAt K mg "held_as" s_held_as ["name", "blind"]
  going : FnAt K mg "going" s_going ["hall", "wishes"]
  meetings : FnAt K mg "meetings" s_meetings ["hall", "wishes"]
  ask_wishes : FnAt K mg "ask_wishes" s_ask_wishes ["hall", "wishes"]
  path_then : FnAt K mg "path_then" s_path_then ["places", "path"]
  paths_then : FnAt K mg "paths_then" s_paths_then ["hall", "wishes"]
  goal : FnAt K mg "goal" s_goal ["hall", "wishes"]
  ahead_of : FnAt K mg "ahead_of" s_ahead_of ["hall", "wishes"]
  gone_along : FnAt K mg "gone_along" s_gone_along ["ahead", "first"]
  firsts : FnAt K mg "firsts" s_firsts ["ahead"]
  chains : FnAt K mg "chains" s_chains ["hall", "wishes"]
  rings : FnAt K mg "rings" s_rings ["hall", "wishes"]
  row_for : FnAt K mg "row_for" s_row_for ["hall", "wishes"]
  gone_on : FnAt K mg "gone_on" s_gone_on ["paths", "path", "place"]
  does : FnAt K mg "does" s_does ["hall", "wishes", "row"]
  l_draw : FnAt K mg "_law_draw" s_l_draw ["_law_feed", "_law_many"]
  l_name_signs : FnAt K mg "_law_name_signs" s_l_name_signs []
  l_text : FnAt K mg "_law_text" s_l_text ["_law_feed", "_law_signs", "_law_size"]
  l_a_name : FnAt K mg "_law_a_name" s_l_a_name ["_law_feed"]
  l_fold : FnAt K mg "_law_fold" s_l_fold ["_law_name", "_law_blind"]
  l_rows : FnAt K mg "_law_rows" s_l_rows ["_law_feed", "_law_blind", "_law_most"]
  l_other_case : FnAt K mg "_law_other_case" s_l_other_case ["_law_feed", "_law_name"]
  l_some_of : FnAt K mg "_law_some_of" s_l_some_of ["_law_feed", "_law_things", "_law_many"]
  l_free_place : FnAt K mg "_law_free_place" s_l_free_place ["_law_feed", "_law_marks", "_law_path", "_law_taken", "_law_blind"]
  l_good_wishes : FnAt K mg "_law_good_wishes" s_l_good_wishes ["_law_feed", "_law_rows_here", "_law_blind", "_law_most"]
  l_in_order : FnAt K mg "_law_in_order" s_l_in_order ["_law_feed", "_law_wishes"]
  l_small : FnAt K mg "_law_small" s_l_small ["_law_path"]
  l_pairs_only : FnAt K mg "_law_pairs_only" s_l_pairs_only ["_law_found"]
  l_turned : FnAt K mg "_law_turned" s_l_turned ["_law_pairs"]
  l_alike_told : FnAt K mg "_law_alike_told" s_l_alike_told ["_law_rows_here", "_law_wishes"]
  CH : Addr
  gH : mg "Hall" = some (.ref CH)
  clH : Cls K CH
  nH_blind : NoAttr K CH "blind"
  nH_marks : NoAttr K CH "marks"
  H_rows : MtAt K CH "rows" "Hall.rows" s_H_rows ["self"]
  H_is_blind : MtAt K CH "is_blind" "Hall.is_blind" s_H_is_blind ["self"]
  H_there : MtAt K CH "there" "Hall.there" s_H_there ["self", "place"]
  H_ask_thing : MtAt K CH "ask_thing" "Hall.ask_thing" s_H_ask_thing ["self", "path"]
  H_ask_drawer : MtAt K CH "ask_drawer" "Hall.ask_drawer" s_H_ask_drawer ["self", "path"]
  H_is_drawer : MtAt K CH "is_drawer" "Hall.is_drawer" s_H_is_drawer ["self", "path"]
  H_move : MtAt K CH "move" "Hall.move" s_H_move ["self", "path", "place"]
  CS : Addr
  gS : mg "Sorter" = some (.ref CS)
  clS : Cls K CS
  nS_blind : NoAttr K CS "blind"
  nS_places : NoAttr K CS "places"
  nS_spots : NoAttr K CS "spots"
  nS_moves : NoAttr K CS "moves"
  S_path_now : MtAt K CS "path_now" "Sorter.path_now" s_S_path_now ["self", "path"]
  S_go : MtAt K CS "go" "Sorter.go" s_S_go ["self", "path", "drawer", "name"]
  S_go_home : MtAt K CS "go_home" "Sorter.go_home" s_S_go_home ["self", "path"]
  S_spare_name : MtAt K CS "spare_name" "Sorter.spare_name" s_S_spare_name ["self", "drawer"]
  S_go_round : MtAt K CS "go_round" "Sorter.go_round" s_S_go_round ["self", "ring"]
  fHi : Addr
  fdHi : FuncData
  FHi : FunD K "__init__" "Hall.__init__" (defArgs s_H___init__) (defBody s_H___init__) (defScope s_H___init__) [.bl false] [] fHi fdHi
  mHi : Mk K CH fHi
  bHi : Binds K fdHi ["self", "rows", "blind"] []
  fSi : Addr
  fdSi : FuncData
  FSi : Fun K "__init__" "Sorter.__init__" s_S___init__ fSi fdSi
  mSi : Mk K CS fSi
  bSi : Binds K fdSi ["self", "hall", "wishes"] []
  z_dict : mg "dict" = none
  z_enumerate : mg "enumerate" = none
  z_sorted : mg "sorted" = none
  z_range : mg "range" = none
  z_len : mg "len" = none
  z_reversed : mg "reversed" = none
  z_list : mg "list" = none
  z_str : mg "str" = none
  z_zip : mg "zip" = none
  z_tuple : mg "tuple" = none
  z_max : mg "max" = none
  z_min : mg "min" = none
  cE : Addr
  gE : mg "HallError" = some (.ref cE)
end R
/-! MD: paths, marks and dicts keyed by paths, told by keys and a function -/
namespace R
open PySem L2 Evl

abbrev Path := List Str
abbrev Mark := Option Int
def pk (p : Path) : D := .tup (p.map .text)
def mkk : Mark → D
  | none => .none
  | some i => .num i
theorem text_inj : ∀ {p q : Path}, p.map NestedKey.text = q.map NestedKey.text → p = q
  | [], [], _ => rfl
  | [], _ :: _, h => by simp at h
  | _ :: _, [], h => by simp at h
  | a :: p, b :: q, h => by
    simp only [List.map_cons, List.cons.injEq, NestedKey.text.injEq] at h
    rw [h.1, text_inj h.2]
theorem pk_inj {p q : Path} (h : pk p = pk q) : p = q := by
  unfold pk at h
  injection h with h
  exact text_inj h
theorem pk_dec (p q : Path) : decide (pk p = pk q) = decide (p = q) := by
  by_cases h : p = q
  · rw [h]; simp
  · rw [decide_eq_false h, decide_eq_false fun e => h (pk_inj e)]
theorem pk_ne {p q : Path} (h : p ≠ q) : ¬ pk p = pk q := fun e => h (pk_inj e)
theorem dep_texts : ∀ p : Path, NestedKey.depthAll (p.map .text) = 0
  | [] => by simp [NestedKey.depthAll]
  | a :: p => by
    simp only [List.map_cons, NestedKey.depthAll]
    rw [dep_texts p]
    simp [NestedKey.depth]
theorem dep_pk (p : Path) : (pk p).depth = 1 := by
  unfold pk
  rw [NestedKey.depth, dep_texts]
theorem dep_mk (m : Mark) : (mkk m).depth = 0 := by cases m <;> simp [mkk, NestedKey.depth]
theorem pk_le8 (p : Path) : (pk p).depth ≤ 8 := by rw [dep_pk]; omega
theorem key_pk {H : Hp} {v : V} {p : Path} (h : Rp H v (pk p)) : KeyAt H v (pk p) := ⟨h, ⟨_, rfl⟩, pk_le8 p⟩
theorem mk_none (m : Mark) : decide (mkk m = .none) = decide (m = none) := by cases m <;> simp [mkk]

/-! ### functions changed at a point, keys put in -/
def fput {α β : Type} [DecidableEq α] (f : α → β) (p : α) (e : β) : α → β := fun q => if q = p then e else f q
theorem fput_same {α β : Type} [DecidableEq α] (f : α → β) (p : α) (e : β) : fput f p e p = e := if_pos rfl
theorem fput_ne {α β : Type} [DecidableEq α] {f : α → β} {p q : α} {e : β} (h : q ≠ p) : fput f p e q = f q := if_neg h
def kins {α : Type} [DecidableEq α] (ks : List α) (p : α) : List α := if p ∈ ks then ks else ks ++ [p]
theorem kins_old {α : Type} [DecidableEq α] {ks : List α} {p : α} (h : p ∈ ks) : kins ks p = ks := if_pos h
theorem kins_new {α : Type} [DecidableEq α] {ks : List α} {p : α} (h : p ∉ ks) : kins ks p = ks ++ [p] := if_neg h
theorem kins_len {α : Type} [DecidableEq α] (ks : List α) (p : α) : (kins ks p).length ≤ ks.length + 1 := by
  unfold kins
  split <;> simp
theorem mem_kins {α : Type} [DecidableEq α] {ks : List α} {p q : α} : q ∈ kins ks p ↔ q = p ∨ q ∈ ks := by
  unfold kins
  split
  · rename_i hp
    exact ⟨fun h => .inr h, fun h => h.elim (fun e => by rw [e]; exact hp) id⟩
  · rw [List.mem_append, List.mem_singleton]
    exact ⟨fun h => h.elim .inr .inl, fun h => h.elim .inr .inl⟩
theorem nodup_kins {α : Type} [DecidableEq α] {ks : List α} {p : α} (h : ks.Nodup) : (kins ks p).Nodup := by
  unfold kins
  split
  · exact h
  · rename_i hp
    rw [List.nodup_append]
    exact ⟨h, by simp, fun a ha b hb => by rw [List.mem_singleton] at hb; rw [hb]; exact fun e => hp (e ▸ ha)⟩
/-- keys encoded by a function that tells them apart -/
structure Enc (α : Type) [DecidableEq α] where
  e : α → D
  inj : ∀ a b, e a = e b → a = b
def eP : Enc Path := ⟨pk, fun _ _ => pk_inj⟩
section
variable {α : Type} [DecidableEq α] (E : Enc α)
theorem val_map (ks : List α) (g : α → V) (p : α) : valV (ks.map fun q => (E.e q, g q)) (E.e p) = if p ∈ ks then some (g p) else none := by
  induction ks with
  | nil => rfl
  | cons a ks ih =>
    rw [List.map_cons]
    by_cases h : a = p
    · subst h
      rw [valV_pos rfl, if_pos (List.mem_cons_self ..)]
    · rw [valV_neg fun e => h (E.inj _ _ e), ih]
      have : (p ∈ a :: ks) ↔ p ∈ ks := by rw [List.mem_cons]; exact ⟨fun z => z.elim (fun e => absurd e.symm h) id, .inr⟩
      by_cases hp : p ∈ ks
      · rw [if_pos hp, if_pos (this.mpr hp)]
      · rw [if_neg hp, if_neg fun z => hp (this.mp z)]
theorem put_map (ks : List α) (g : α → V) (p : α) (v : V) : putK (ks.map fun q => (E.e q, g q)) (E.e p) v = (kins ks p).map fun q => (E.e q, fput g p v q) := by
  have hv := val_map E ks g p
  unfold putK
  rw [valV_any, hv]
  by_cases h : p ∈ ks
  · rw [if_pos h, kins_old h]
    simp only [Option.isSome_some, if_true, List.map_map]
    refine List.map_congr_left fun q _ => ?_
    show (if E.e q = E.e p then (E.e q, v) else (E.e q, g q)) = (E.e q, if q = p then v else g q)
    by_cases hq : q = p
    · subst hq; rw [if_pos rfl, if_pos rfl]
    · rw [if_neg fun e => hq (E.inj _ _ e), if_neg hq]
  · rw [if_neg h, kins_new h]
    simp only [Option.isSome_none, Bool.false_eq_true, if_false, List.map_append, List.map_cons, List.map_nil]
    congr 1
    · refine List.map_congr_left fun q hq => ?_
      rw [fput_ne fun e : q = p => h (e ▸ hq)]
    · rw [fput_same]
end

/-! ### dicts keyed so: values as they are | data -/
def KyO {α : Type} [DecidableEq α] (E : Enc α) (w : World) (H : Hp) (d : Addr) (o : Obj) (ks : List α) (g : α → V) : Prop := DctO w H d o (ks.map fun q => (E.e q, g q))
def FnO {α : Type} [DecidableEq α] (E : Enc α) (w : World) (H : Hp) (d : Addr) (o : Obj) (ks : List α) (f : α → D) : Prop := ∃ g, KyO E w H d o ks g ∧ ∀ q ∈ ks, Rp H (g q) (f q)
def Ky {α : Type} [DecidableEq α] (E : Enc α) (w : World) (H : Hp) (d : Addr) (ks : List α) : Prop := ∃ o g, KyO E w H d o ks g
def Fd {α : Type} [DecidableEq α] (E : Enc α) (w : World) (H : Hp) (d : Addr) (ks : List α) (f : α → D) : Prop := ∃ o, FnO E w H d o ks f
section
variable {α : Type} [DecidableEq α] {E : Enc α} {w : World} {H H' : Hp} {d : Addr} {o : Obj} {ks : List α} {g : α → V} {f f' : α → D}
theorem KyO.ex (e : Ex H H') (h : KyO E w H d o ks g) : KyO E w H' d o ks g := DctO.ex e h
theorem FnO.ex (e : Ex H H') (h : FnO E w H d o ks f) : FnO E w H' d o ks f := let ⟨g, h1, h2⟩ := h; ⟨g, h1.ex e, fun q hq => (h2 q hq).ex e⟩
theorem Fd.ex (e : Ex H H') (h : Fd E w H d ks f) : Fd E w H' d ks f := let ⟨o, h⟩ := h; ⟨o, h.ex e⟩
theorem Ky.ex (e : Ex H H') (h : Ky E w H d ks) : Ky E w H' d ks := let ⟨o, g, h⟩ := h; ⟨o, g, h.ex e⟩
theorem KyO.exb {b : Addr} (e : ExB b H H') (hb : d ≠ b) (h : KyO E w H d o ks g) : KyO E w H' d o ks g := DctO.exb e hb h
theorem FnO.exb {b : Addr} (e : ExB b H H') (hb : d ≠ b) (h : FnO E w H d o ks f) : FnO E w H' d o ks f := let ⟨g, h1, h2⟩ := h; ⟨g, h1.exb e hb, fun q hq => (h2 q hq).tk e.2⟩
theorem Fd.exb {b : Addr} (e : ExB b H H') (hb : d ≠ b) (h : Fd E w H d ks f) : Fd E w H' d ks f := let ⟨o, h⟩ := h; ⟨o, h.exb e hb⟩
theorem Ky.exb {b : Addr} (e : ExB b H H') (hb : d ≠ b) (h : Ky E w H d ks) : Ky E w H' d ks := let ⟨o, g, h⟩ := h; ⟨o, g, h.exb e hb⟩
theorem FnO.tk (k : Tk H H') (e : ∀ o, H d = some o → H' d = some o) (h : FnO E w H d o ks f) : FnO E w H' d o ks f := let ⟨g, h1, h2⟩ := h; ⟨g, DctO.tk k (e _ h1.1) h1, fun q hq => (h2 q hq).tk k⟩
theorem KyO.tk (k : Tk H H') (e : ∀ o, H d = some o → H' d = some o) (h : KyO E w H d o ks g) : KyO E w H' d o ks g := DctO.tk k (e _ h.1) h
theorem Fd.ky (h : Fd E w H d ks f) : Ky E w H d ks := let ⟨o, g, h1, _⟩ := h; ⟨o, g, h1⟩
theorem Ky.nodup (h : Ky E w H d ks) : ks.Nodup := by
  obtain ⟨o, g, h⟩ := h
  have := DctO.nodup h
  rw [List.map_map] at this
  exact (List.pairwise_map.mp this).imp fun hne e => hne (congrArg _ e)
theorem Fd.nodup (h : Fd E w H d ks f) : ks.Nodup := h.ky.nodup
theorem Fd.congr (h : Fd E w H d ks f) (k : ∀ q ∈ ks, f q = f' q) : Fd E w H d ks f' := let ⟨o, g, h1, h2⟩ := h; ⟨o, g, h1, fun q hq => k q hq ▸ h2 q hq⟩
theorem Ky.at (h : Ky E w H d ks) : ∃ o, H d = some (xO d o) := let ⟨o, g, h⟩ := h; ⟨o, h.1⟩
theorem Fd.at (h : Fd E w H d ks f) : ∃ o, H d = some (xO d o) := h.ky.at
theorem ky_new {p : Addr} {o : Obj} (h : DctO w H p o []) : Ky E w H p [] := ⟨o, fun _ => .non, h⟩
theorem fd_new {p : Addr} {o : Obj} (h : DctO w H p o []) : Fd E w H p [] f := ⟨o, fun _ => .non, h, fun q hq => nomatch hq⟩
/-- behind a store -/
theorem KyO.put {p : α} {v : V} {o' : Obj} (h : KyO E w H d o ks g) (h' : DctO w (upd H d (xO d o')) d o' (putK (ks.map fun q => (E.e q, g q)) (E.e p) v)) : KyO E w (upd H d (xO d o')) d o' (kins ks p) (fput g p v) := by
  unfold KyO
  rw [← put_map]
  exact h'
theorem xo_exb {o' : Obj} (h : ∃ o, H d = some (xO d o)) : ExB d H (upd H d (xO d o')) := ExB.upd fun ys e => by obtain ⟨o, h⟩ := h; rw [h] at e; cases e
theorem FnO.put {p : α} {v : V} {e : D} {o' : Obj} (h : FnO E w H d o ks f) (rv : Rp H v e) (h' : ∀ g, KyO E w H d o ks g → DctO w (upd H d (xO d o')) d o' (putK (ks.map fun q => (E.e q, g q)) (E.e p) v)) : FnO E w (upd H d (xO d o')) d o' (kins ks p) (fput f p e) := by
  obtain ⟨g, h1, h2⟩ := h
  refine ⟨fput g p v, h1.put (h' g h1), fun q hq => ?_⟩
  have tk := (xo_exb (o' := o') ⟨_, h1.1⟩).2
  by_cases e : q = p
  · subst e; rw [fput_same, fput_same]; exact rv.tk tk
  · rw [fput_ne e, fput_ne e]
    exact (h2 q ((mem_kins.mp hq).resolve_left e)).tk tk
end

/-! ### readings over such dicts -/
section
variable {α : Type} [DecidableEq α] {E : Enc α} {w : World} {σ : L2.St} {H : Hp} {d : Addr} {ks : List α} {f : α → D} {td ty tv : TE} {p : α} {tz : TS} {N : Ends} {e : D}
/-- keys that may stand in a dict -/
def KeyD (k : D) : Prop := (∃ ks, k = .tup ks) ∧ k.depth ≤ 8
theorem KeyD.at {k : D} (h : KeyD k) {v : V} (r : Rp H v k) : KeyAt H v k := ⟨r, h.1, h.2⟩
theorem keyD_pk (p : Path) : KeyD (pk p) := ⟨⟨_, rfl⟩, pk_le8 p⟩
theorem ev_get (ha : Ev td σ H (.ref d)) (hd : Fd E w H d ks f) (hk : EvD ty σ H (E.e p)) (kd : KeyD (E.e p)) (hp : p ∈ ks) : EvD (tOp (rGetN w) td ty) σ H (f p) :=
  evp_op (evp_ev (P := fun v _ => v = .ref d) ha fun _ _ => rfl) (up_v _) hk fun x y H1 e1 px py Q q => by
    subst px
    obtain ⟨o, g, h1, h2⟩ := hd.ex e1
    exact ⟨d, _, E.e p, g p, rfl, ⟨o, h1⟩, kd.at py, by rw [val_map E, if_pos hp], q _ H1 (Ex.refl _) (h2 p hp)⟩
theorem ev_in (hk : EvD ty σ H (E.e p)) (kd : KeyD (E.e p)) (ha : Ev td σ H (.ref d)) (hd : Ky E w H d ks) : Ev (tOp (rInN w false) ty td) σ H (.bl (decide (p ∈ ks))) :=
  ev_of (evp_op hk (up_d _) (evp_ev (P := fun v _ => v = .ref d) ha fun _ _ => rfl) fun x y H1 e1 px py Q q => by
    subst py
    obtain ⟨o, g, h1⟩ := hd.ex e1
    refine ⟨d, _, E.e p, rfl, ⟨o, h1⟩, kd.at px, ?_⟩
    rw [val_map E]
    refine q _ H1 (Ex.refl _) ?_
    by_cases h : p ∈ ks <;> simp [h])
theorem ev_notin (hk : EvD ty σ H (E.e p)) (kd : KeyD (E.e p)) (ha : Ev td σ H (.ref d)) (hd : Ky E w H d ks) : Ev (tOp (rInN w true) ty td) σ H (.bl (!decide (p ∈ ks))) :=
  ev_of (evp_op hk (up_d _) (evp_ev (P := fun v _ => v = .ref d) ha fun _ _ => rfl) fun x y H1 e1 px py Q q => by
    subst py
    obtain ⟨o, g, h1⟩ := hd.ex e1
    refine ⟨d, _, E.e p, rfl, ⟨o, h1⟩, kd.at px, ?_⟩
    rw [val_map E]
    refine q _ H1 (Ex.refl _) ?_
    by_cases h : p ∈ ks <;> simp [h])
/-- d[k] = data -/
theorem s_putF (hv : EvD tv σ H e) (ha : Ev td σ H (.ref d)) (hk : EvD ty σ H (E.e p)) (kd : KeyD (E.e p)) (hd : Fd E w H d ks f) (hl : ks.length < 100000) (k : ∀ H1, ExB d H H1 → Fd E w H1 d (kins ks p) (fput f p e) → N.nx σ H1) : sDPutN w td ty tv N σ H :=
  hv H (Ex.refl _) _ fun v H1 e1 pv => ha H1 e1 _ fun H2 e2 => hk H2 (e1.trans e2) _ fun y H3 e3 py => by
    have ex := (e1.trans e2).trans e3
    obtain ⟨o, hF⟩ := hd.ex ex
    obtain ⟨g, h1, h2⟩ := id hF
    refine ⟨d, _, E.e p, rfl, ⟨o, h1⟩, kd.at py, by rw [List.length_map]; exact hl, fun o' h' => ?_⟩
    have pv' : Rp H3 v e := Rp.ex (e2.trans e3) pv
    refine k _ ((ExB.of ex).trans (xo_exb ⟨_, h1.1⟩)) ⟨o', fput g p v, h1.put h', fun q hq => ?_⟩
    have tk := (xo_exb (o' := o') ⟨_, h1.1⟩).2
    by_cases z : q = p
    · subst z; rw [fput_same, fput_same]; exact pv'.tk tk
    · rw [fput_ne z, fput_ne z]
      exact (h2 q ((mem_kins.mp hq).resolve_left z)).tk tk
theorem q_putF (hv : EvD tv σ H e) (ha : Ev td σ H (.ref d)) (hk : EvD ty σ H (E.e p)) (kd : KeyD (E.e p)) (hd : Fd E w H d ks f) (hl : ks.length < 100000) (k : ∀ H1, ExB d H H1 → Fd E w H1 d (kins ks p) (fput f p e) → tz N σ H1) : tSeq (sDPutN w td ty tv) tz N σ H :=
  s_putF (N := { N with nx := tz N }) hv ha hk kd hd hl k
/-- d[k] = anything -/
theorem s_putK {v : V} (hv : Ev tv σ H v) (ha : Ev td σ H (.ref d)) (hk : EvD ty σ H (E.e p)) (kd : KeyD (E.e p)) (hd : Ky E w H d ks) (hl : ks.length < 100000) (k : ∀ H1, ExB d H H1 → Ky E w H1 d (kins ks p) → N.nx σ H1) : sDPutN w td ty tv N σ H :=
  hv H (Ex.refl _) _ fun H1 e1 => ha H1 e1 _ fun H2 e2 => hk H2 (e1.trans e2) _ fun y H3 e3 py => by
    have ex := (e1.trans e2).trans e3
    obtain ⟨o, g, h1⟩ := hd.ex ex
    refine ⟨d, _, E.e p, rfl, ⟨o, h1⟩, kd.at py, by rw [List.length_map]; exact hl, fun o' h' => ?_⟩
    exact k _ ((ExB.of ex).trans (xo_exb ⟨_, h1.1⟩)) ⟨o', _, h1.put h'⟩
theorem q_putK {v : V} (hv : Ev tv σ H v) (ha : Ev td σ H (.ref d)) (hk : EvD ty σ H (E.e p)) (kd : KeyD (E.e p)) (hd : Ky E w H d ks) (hl : ks.length < 100000) (k : ∀ H1, ExB d H H1 → Ky E w H1 d (kins ks p) → tz N σ H1) : tSeq (sDPutN w td ty tv) tz N σ H :=
  s_putK (N := { N with nx := tz N }) hv ha hk kd hd hl k
/-- {} -/
theorem q_newD {i : Nat} (k : ∀ q H1, H q = none → Ex H H1 → (∃ o, DctO w H1 q o []) → tz N (σ.set i (some (.ref q))) H1) : tSeq (tAsg (tDNewN w) (gName i)) tz N σ H := fun q o hq ho => k q _ hq (Ex.new hq) ⟨o, ho⟩
/-- for k in d -/
theorem s_forK {g : TG} {tb : TS} {gv : α → V} {o : Obj} (h : Ev td σ H (.ref d)) (hd : KyO E w H d o ks gv) (Pv : Nat → L2.St → Hp → Prop) (h0 : ∀ H1, Ex H H1 → Pv 0 σ H1) (hk : ∀ i σ' H', Pv i σ' H' → Tk H H' ∧ ∀ o, H d = some o → H' d = some o)
    (hs : ∀ i v p σ' H', ks[i]? = some p → Rp H' v (E.e p) → Pv i σ' H' → g v σ' H' fun σ2 H2 => tb { N with nx := Pv (i + 1), ct := Pv (i + 1), bk := N.nx } σ2 H2) (he : ∀ σ' H', Pv ks.length σ' H' → N.nx σ' H') : tFor (iKeysN w td) g tb N σ H :=
  h H (Ex.refl _) _ fun H1 e1 => ⟨d, o, _, rfl, hd.ex e1, for_keysN (w := w) (d := d) (o := o) Pv (h0 H1 e1) (fun i σ' H' _ p => hd.tk (hk i σ' H' p).1 (hk i σ' H' p).2) (fun i x k v σ' H' hi ka p => by
    rw [List.getElem?_map] at hi
    cases hq : ks[i]? with
    | none => rw [hq] at hi; cases hi
    | some q =>
      rw [hq] at hi
      cases hi
      exact hs i x q σ' H' hq ka.rp p) (fun σ' H' p => he σ' H' (by rw [List.length_map] at p; exact p))⟩
theorem q_forK {g : TG} {tb : TS} {gv : α → V} {o : Obj} (h : Ev td σ H (.ref d)) (hd : KyO E w H d o ks gv) (Pv : Nat → L2.St → Hp → Prop) (h0 : ∀ H1, Ex H H1 → Pv 0 σ H1) (hk : ∀ i σ' H', Pv i σ' H' → Tk H H' ∧ ∀ o, H d = some o → H' d = some o)
    (hs : ∀ i v p σ' H', ks[i]? = some p → Rp H' v (E.e p) → Pv i σ' H' → g v σ' H' fun σ2 H2 => tb { N with nx := Pv (i + 1), ct := Pv (i + 1), bk := tz N } σ2 H2) (he : ∀ σ' H', Pv ks.length σ' H' → tz N σ' H') : tSeq (tFor (iKeysN w td) g tb) tz N σ H :=
  s_forK (N := { N with nx := tz N }) h hd Pv h0 hk hs he
/-- for k, v in d.items(), data -/
theorem s_forI {g : TG} {tb : TS} {o : Obj} (h : Ev td σ H (.ref d)) (hd : FnO E w H d o ks f) (Pv : Nat → L2.St → Hp → Prop) (h0 : ∀ H1, Ex H H1 → Pv 0 σ H1) (hk : ∀ i σ' H', Pv i σ' H' → Tk H H' ∧ ∀ o, H d = some o → H' d = some o)
    (hs : ∀ i T p σ' H', ks[i]? = some p → Rp H' (.ref T) (pr (E.e p) (f p)) → (∃ H0, Ex H0 H' ∧ Pv i σ' H0) → g (.ref T) σ' H' fun σ2 H2 => tb { N with nx := Pv (i + 1), ct := Pv (i + 1), bk := N.nx } σ2 H2) (he : ∀ σ' H', Pv ks.length σ' H' → N.nx σ' H') : tFor (iItemsN w td) g tb N σ H := by
  obtain ⟨gv, h1, h2⟩ := hd
  exact h H (Ex.refl _) _ fun H1 e1 => ⟨d, o, _, rfl, h1.ex e1, for_itemsN (w := w) (d := d) (o := o) Pv (h0 H1 e1) (fun i σ' H' _ p => KyO.tk (hk i σ' H' p).1 (hk i σ' H' p).2 h1) (fun i T k v q σ' H' hi hT ka p => by
    rw [List.getElem?_map] at hi
    cases hq : ks[i]? with
    | none => rw [hq] at hi; cases hi
    | some z =>
      rw [hq] at hi
      cases hi
      have rz : Rp H' (gv z) (f z) := (h2 z (List.mem_of_getElem? hq)).tk (hk i σ' H' p).1
      refine hs i T z σ' _ hq (.tup upd_same (.cons (ka.rp.ex (Ex.new hT)) (.cons (rz.ex (Ex.new hT)) .nil))) ⟨H', Ex.new hT, p⟩) (fun σ' H' p => he σ' H' (by rw [List.length_map] at p; exact p))⟩
theorem q_forI {g : TG} {tb : TS} {o : Obj} (h : Ev td σ H (.ref d)) (hd : FnO E w H d o ks f) (Pv : Nat → L2.St → Hp → Prop) (h0 : ∀ H1, Ex H H1 → Pv 0 σ H1) (hk : ∀ i σ' H', Pv i σ' H' → Tk H H' ∧ ∀ o, H d = some o → H' d = some o)
    (hs : ∀ i T p σ' H', ks[i]? = some p → Rp H' (.ref T) (pr (E.e p) (f p)) → (∃ H0, Ex H0 H' ∧ Pv i σ' H0) → g (.ref T) σ' H' fun σ2 H2 => tb { N with nx := Pv (i + 1), ct := Pv (i + 1), bk := tz N } σ2 H2) (he : ∀ σ' H', Pv ks.length σ' H' → tz N σ' H') : tSeq (tFor (iItemsN w td) g tb) tz N σ H :=
  s_forI (N := { N with nx := tz N }) h hd Pv h0 hk hs he
/-- for v in d.values(), data -/
theorem s_forV {g : TG} {tb : TS} {o : Obj} (h : Ev td σ H (.ref d)) (hd : FnO E w H d o ks f) (Pv : Nat → L2.St → Hp → Prop) (h0 : ∀ H1, Ex H H1 → Pv 0 σ H1) (hk : ∀ i σ' H', Pv i σ' H' → Tk H H' ∧ ∀ o, H d = some o → H' d = some o)
    (hs : ∀ i v p σ' H', ks[i]? = some p → Rp H' v (f p) → Pv i σ' H' → g v σ' H' fun σ2 H2 => tb { N with nx := Pv (i + 1), ct := Pv (i + 1), bk := N.nx } σ2 H2) (he : ∀ σ' H', Pv ks.length σ' H' → N.nx σ' H') : tFor (iValsN w td) g tb N σ H := by
  obtain ⟨gv, h1, h2⟩ := hd
  exact h H (Ex.refl _) _ fun H1 e1 => ⟨d, o, _, rfl, h1.ex e1, for_valsN (w := w) (d := d) (o := o) Pv (h0 H1 e1) (fun i σ' H' _ p => KyO.tk (hk i σ' H' p).1 (hk i σ' H' p).2 h1) (fun i k v σ' H' hi p => by
    rw [List.getElem?_map] at hi
    cases hq : ks[i]? with
    | none => rw [hq] at hi; cases hi
    | some z =>
      rw [hq] at hi
      cases hi
      exact hs i _ z σ' H' hq ((h2 z (List.mem_of_getElem? hq)).tk (hk i σ' H' p).1) p) (fun σ' H' p => he σ' H' (by rw [List.length_map] at p; exact p))⟩
theorem q_forV {g : TG} {tb : TS} {o : Obj} (h : Ev td σ H (.ref d)) (hd : FnO E w H d o ks f) (Pv : Nat → L2.St → Hp → Prop) (h0 : ∀ H1, Ex H H1 → Pv 0 σ H1) (hk : ∀ i σ' H', Pv i σ' H' → Tk H H' ∧ ∀ o, H d = some o → H' d = some o)
    (hs : ∀ i v p σ' H', ks[i]? = some p → Rp H' v (f p) → Pv i σ' H' → g v σ' H' fun σ2 H2 => tb { N with nx := Pv (i + 1), ct := Pv (i + 1), bk := tz N } σ2 H2) (he : ∀ σ' H', Pv ks.length σ' H' → tz N σ' H') : tSeq (tFor (iValsN w td) g tb) tz N σ H :=
  s_forV (N := { N with nx := tz N }) h hd Pv h0 hk hs he
end

/-! ### paths: slices, the last name -/
theorem sIx_none (n d : Nat) : HT.sIx n d none = d := rfl
theorem sIx_nat (n d k : Nat) : HT.sIx n d (some (k : Int)) = min k n := by
  unfold HT.sIx
  simp
  try (intro h; omega)
theorem sIx_neg1 (n d : Nat) : HT.sIx n d (some (-1)) = n - 1 := by
  unfold HT.sIx
  simp
  omega
theorem cut_init {α : Type} (xs : List α) : cut xs none (some (-1)) = xs.dropLast := by
  unfold cut
  rw [sIx_none, sIx_neg1, List.drop_zero, Nat.sub_zero, List.dropLast_eq_take]
theorem cut_from {α : Type} (xs : List α) (k : Nat) : cut xs (some (k : Int)) none = xs.drop k := by
  unfold cut
  rw [sIx_none, sIx_nat]
  by_cases h : k ≤ xs.length
  · rw [Nat.min_eq_left h, List.take_of_length_le (by rw [List.length_drop]; omega)]
  · have h1 : min k xs.length = xs.length := by omega
    rw [h1, List.drop_of_length_le (Nat.le_refl _), List.drop_of_length_le (by omega)]
    simp
theorem cut_to {α : Type} (xs : List α) (k : Nat) : cut xs none (some (k : Int)) = xs.take k := by
  unfold cut
  rw [sIx_none, sIx_nat, List.drop_zero, Nat.sub_zero]
  by_cases h : k ≤ xs.length
  · rw [Nat.min_eq_left h]
  · have h1 : min k xs.length = xs.length := by omega
    rw [h1, List.take_length, List.take_of_length_le (by omega)]
theorem pk_init (p : Path) : (NestedKey.tup (cut (p.map .text) none (some (-1)))) = pk p.dropLast := by
  rw [cut_init, ← List.map_dropLast]
  rfl
theorem pk_from (p : Path) (k : Nat) : (NestedKey.tup (cut (p.map .text) (some (k : Int)) none)) = pk (p.drop k) := by
  rw [cut_from, ← List.map_drop]
  rfl
theorem pk_to (p : Path) (k : Nat) : (NestedKey.tup (cut (p.map .text) none (some (k : Int)))) = pk (p.take k) := by
  rw [cut_to, ← List.map_take]
  rfl
/-- the last name -/
def lst (p : Path) : Str := p.getLast?.getD ⟨#[]⟩
theorem lst_snoc (p : Path) (n : Str) : lst (p ++ [n]) = n := by simp [lst]
theorem init_lst {p : Path} (h : p ≠ []) : p.dropLast ++ [lst p] = p := by
  obtain ⟨q, n, rfl⟩ : ∃ q n, p = q ++ [n] := ⟨p.dropLast, p.getLast h, (List.dropLast_concat_getLast h).symm⟩
  rw [lst_snoc, List.dropLast_concat]
theorem at_last {α : Type} {xs : List α} {x : α} : atI (xs ++ [x]) (-1) = some x := by
  have h1 : (1 : Int) ≤ ↑xs.length + 1 := by omega
  have h2 : (-1 + (↑xs.length + 1) : Int).toNat = xs.length := by omega
  unfold atI ixN
  simp [h1, h2]
theorem at_lst {p : Path} (h : p ≠ []) : atI (p.map NestedKey.text) (-1) = some (.text (lst p)) := by
  obtain ⟨q, n, rfl⟩ : ∃ q n, p = q ++ [n] := ⟨p.dropLast, p.getLast h, (List.dropLast_concat_getLast h).symm⟩
  rw [lst_snoc, List.map_append]
  exact at_last
section
variable {K : PySem.W.Frag} {σ : L2.St} {H : Hp} {ta tb : TE} {p q : Path}
theorem ev_m1 : Ev (tUn (rU fun i => .int (-i)) (tC (.int 1))) σ H (.int (-1)) := ev_un ev_c (ru_neg (i := 1))
/-- p[:-1] | p[-1] -/
theorem evd_init (ha : EvD ta σ H (pk p)) : EvD (tSl (rSlA K) ta tNoPart (tPart (tUn (rU fun i => .int (-i)) (tC (.int 1))))) σ H (pk p.dropLast) := evd_is (evd_cut ha eo_none (eo_some ev_m1)) (pk_init p)
theorem evd_last (ha : EvD ta σ H (pk p)) (hp : p ≠ []) : EvD (tOp (rIxT K) ta (tUn (rU fun i => .int (-i)) (tC (.int 1)))) σ H (.text (lst p)) := evd_ix ha ev_m1 (at_lst hp)
theorem evd_snoc {n : Str} (ha : EvD ta σ H (pk p)) (hb : EvD tb σ H (.text n)) (hl : p.length ≤ 1000) : EvD (tOp (rCatA K) ta (tTup (tCons tb tNil))) σ H (pk (p ++ [n])) :=
  evd_is (evd_cat ha (evd_tup (eds_cons hb eds_nil) (by simp)) (by simp; omega)) (by simp [pk])
theorem evd_catP (ha : EvD ta σ H (pk p)) (hb : EvD tb σ H (pk q)) (hl : p.length ≤ 1000) (hl' : q.length ≤ 1000) : EvD (tOp (rCatA K) ta tb) σ H (pk (p ++ q)) :=
  evd_is (evd_cat ha hb (by simp; omega)) (by simp [pk])
theorem ev_eqP (ha : EvD ta σ H (pk p)) (hb : EvD tb σ H (pk q)) : Ev (tOp (rEqD K) ta tb) σ H (.bl (decide (p = q))) := ev_is (ev_eqD ha hb (pk_le8 p) (pk_le8 q)) (by rw [pk_dec])
theorem ev_neP (ha : EvD ta σ H (pk p)) (hb : EvD tb σ H (pk q)) : Ev (tOp (rNeD K) ta tb) σ H (.bl (!decide (p = q))) := ev_is (ev_neD ha hb (pk_le8 p) (pk_le8 q)) (by rw [pk_dec])
theorem evd_nilP : EvD (tTup tNil) σ H (pk []) := evd_tup eds_nil
/-- names in a path are such as they may be -/
theorem Rp.names {v : V} (h : Rp H v (pk p)) : ∀ n ∈ p, okS n = true := by
  unfold pk at h
  cases h with
  | tup h1 h2 =>
    clear h1
    rename_i a xs
    induction p generalizing xs with
    | nil => intro n hn; cases hn
    | cons b p ih =>
      cases h2 with
      | cons r t =>
        intro n hn
        rcases List.mem_cons.mp hn with e | hn
        · subst e; cases r; assumption
        · exact ih t n hn
theorem lst_mem (h : p ≠ []) : lst p ∈ p := by
  obtain ⟨q, n, rfl⟩ : ∃ q n, p = q ++ [n] := ⟨p.dropLast, p.getLast h, (List.dropLast_concat_getLast h).symm⟩
  rw [lst_snoc]
  simp
end
end R
/-! W1: the hall's own deeds, but for its making and move -/
namespace R
open PySem L2 Evl

def low (s : Str) : Str := Txt.lower s
def hold (b : Bool) (s : Str) : Str := if b then low s else s
def hF (b : Bool) (m : Addr) : List (Str × V) := [("blind", .bl b), ("marks", .ref m)]
def HallAt (w : World) (C : Addr) (H : Hp) (h : Addr) (b : Bool) (ks : List Path) (mk : Path → Mark) : Prop :=
  ∃ dx m, H h = some (.ins C dx (hF b m)) ∧ Fd eP w H m ks (fun p => mkk (mk p))
def leP (p q : Path) : Bool := leD (pk p) (pk q)
def sortP (ks : List Path) : List Path := ks.mergeSort leP
def rowsD (ks : List Path) (mk : Path → Mark) : List D := ks.map fun p => pr (pk p) (mkk (mk p))
def isDr (ks : List Path) (mk : Path → Mark) (p : Path) : Bool := decide (p = []) || (decide (p ∈ ks) && decide (mk p = none))
def thereM (b : Bool) (ks : List Path) (p : Path) : Option Path :=
  if p ∈ ks then some p else if b then ks.find? (fun q => decide (q.dropLast = p.dropLast) && decide (low (lst q) = low (lst p))) else none
def optD : Option Path → D
  | none => .none
  | some p => pk p
theorem sort_pk (ks : List Path) : sortD (ks.map pk) = (sortP ks).map pk := by
  unfold sortD sortP
  exact (List.map_mergeSort (f := pk) (r := leP) (s := leD) fun _ _ _ _ => rfl).symm
theorem mem_sortP {ks : List Path} {p : Path} : p ∈ sortP ks ↔ p ∈ ks := List.mem_mergeSort
theorem sortP_len (ks : List Path) : (sortP ks).length = ks.length := List.length_mergeSort ..
theorem data_pk (p : Path) : (pk p).data = .tuple (NestedKey.datas (p.map .text)) := by simp [pk, NestedKey.data]
theorem HallAt.ex {w : World} {C h : Addr} {H H' : Hp} {b : Bool} {ks : List Path} {mk : Path → Mark} (e : Ex H H') (x : HallAt w C H h b ks mk) : HallAt w C H' h b ks mk :=
  let ⟨dx, m, h1, h2⟩ := x; ⟨dx, m, e _ _ h1, h2.ex e⟩
theorem HallAt.nodup {w : World} {C h : Addr} {H : Hp} {b : Bool} {ks : List Path} {mk : Path → Mark} (x : HallAt w C H h b ks mk) : ks.Nodup := let ⟨_, _, _, h2⟩ := x; h2.nodup

theorem HallAt.exb {w : World} {C h a : Addr} {H H' : Hp} {b : Bool} {ks : List Path} {mk : Path → Mark} (e : ExB a H H') (ha : ∀ dx fs, H a ≠ some (.ins C dx fs)) (hd : ∀ o, H a ≠ some (xO a o)) (x : HallAt w C H h b ks mk) : HallAt w C H' h b ks mk := by
  obtain ⟨dx, m, h1, h2⟩ := x
  refine ⟨dx, m, e.1 _ _ (fun q => ha dx _ (q ▸ h1)) h1, h2.exb e fun q => ?_⟩
  obtain ⟨o, h3⟩ := h2.at
  exact hd o (q ▸ h3)
theorem text_back : ∀ p : Path, (p.map NestedKey.text).filterMap (fun z => match z with | .text t => some t | _ => none) = p
  | [] => rfl
  | x :: r => by
    rw [List.map_cons, List.filterMap_cons]
    show x :: _ = _
    rw [text_back r]
theorem filterMap_all {α β : Type} {f : α → Option β} {g : α → β} : ∀ {xs : List α}, (∀ x ∈ xs, f x = some (g x)) → xs.filterMap f = xs.map g
  | [], _ => rfl
  | x :: xs, h => by
    rw [List.filterMap_cons, h x (List.mem_cons_self ..), List.map_cons, filterMap_all fun y hy => h y (List.mem_cons_of_mem _ hy)]
/-! ### what may be sorted -/
theorem al_texts : ∀ xs ys : Path, PySem.W.alikeAll (NestedKey.datas (xs.map .text)) (NestedKey.datas (ys.map .text)) = true
  | [], _ => by simp [NestedKey.datas, PySem.W.alikeAll]
  | _ :: _, [] => by simp [NestedKey.datas, PySem.W.alikeAll]
  | x :: xs, y :: ys => by
    simp only [List.map_cons, NestedKey.datas, NestedKey.data, PySem.W.alikeAll, PySem.W.alike, al_texts xs ys, Bool.and_self]
theorem al_pk (p q : Path) : PySem.W.alike (pk p).data (pk q).data = true := by
  rw [data_pk, data_pk]
  simp only [PySem.W.alike, al_texts]
theorem sortOk_pk {ks : List Path} (h : ∀ p ∈ ks, p ≠ []) : SortOk (ks.map pk) where
  alike := fun d hd e he => by
    obtain ⟨_, h1, rfl⟩ := List.mem_map.mp hd
    obtain ⟨_, h2, rfl⟩ := List.mem_map.mp he
    obtain ⟨p, _, rfl⟩ := List.mem_map.mp h1
    obtain ⟨q, _, rfl⟩ := List.mem_map.mp h2
    exact al_pk p q
  tup := fun d hd => by
    obtain ⟨p, hp, rfl⟩ := List.mem_map.mp hd
    cases p with
    | nil => exact absurd rfl (h _ hp)
    | cons x r => exact ⟨.text x, r.map .text, rfl⟩
  dep := fun d hd => by
    obtain ⟨p, hp, rfl⟩ := List.mem_map.mp hd
    exact pk_le8 p

section
variable {σ : L2.St} {H : Hp} {ta tb : TE}
theorem ev_eqS {a b : Str} (ha : Ev ta σ H (.str a)) (hb : Ev tb σ H (.str b)) : Ev (tOp rEq ta tb) σ H (.bl (decide (a = b))) :=
  ev_is (ev_op ha hb (rv_eq rfl)) (by by_cases h : a = b <;> simp [h])
theorem ev_eqI {a b : Int} (ha : Ev ta σ H (.int a)) (hb : Ev tb σ H (.int b)) : Ev (tOp rEq ta tb) σ H (.bl (decide (a = b))) :=
  ev_is (ev_op ha hb (rv_eq rfl)) (by by_cases h : a = b <;> simp [h])
theorem ev_neI {a b : Int} (ha : Ev ta σ H (.int a)) (hb : Ev tb σ H (.int b)) : Ev (tOp rNe ta tb) σ H (.bl (!decide (a = b))) :=
  ev_is (ev_op ha hb (rv_ne rfl)) (by by_cases h : a = b <;> simp [h])
end

/-! ### comprehensions over encoded lists; sorted keys -/
theorem et_yes {σ : L2.St} {H : Hp} : EvT tYes σ H true := fun H1 _ Q q => q H1 (Ex.refl _)
theorem evn_lcA {α : Type} {K : PySem.W.Frag} {σ : L2.St} {H : Hp} {te tl : TE} {g : TG} {tt : TT} {vs : List Nat} {as : List α} {e : α → D} (h : EvLs tl σ H (as.map e)) (hz : as.length ≤ 50000) (f : α → Option D)
    (hs : ∀ v a H1, a ∈ as → Ex H H1 → Rp H1 v (e a) → g v (wipe σ vs) H1 fun σ2 H2 => Ex H1 H2 ∧ wipe σ2 vs = wipe σ vs ∧ ∃ b, EvT tt σ2 H2 b ∧ (b = true → ∃ c, f a = some c ∧ EvD te σ2 H2 c) ∧ (b = false → f a = none))
    (hg : ∀ v σ' H' (Q Q' : L2.St → Hp → Prop), (∀ σ2 H2, Q σ2 H2 → Q' σ2 H2) → g v σ' H' Q → g v σ' H' Q') :
    EvN (tLc (iList K tl) g tt te vs) σ H (as.filterMap f) := fun H0 e0 Q q =>
  h H0 e0 _ fun v H1 e1 ⟨a, ev, xs, h1, h2⟩ => by
    subst ev
    refine ⟨a, rfl, ⟨xs, sq_of h1⟩, fun Dl hD => lc_list (K := K) (a := a) (xs := xs) (fun i H' => Ex H1 H' ∧ i ≤ as.length ∧ LstD H' Dl ((as.take i).filterMap f)) ⟨Ex.new hD, Nat.zero_le _, [], upd_same, .nil⟩ (fun i H' _ p => sq_of (p.1 _ _ h1)) (fun i x H' hi p => ?_) (fun H' p => ?_)⟩
    · obtain ⟨d, hd, r⟩ := h2.get hi
      obtain ⟨p1, pi, p2⟩ := p
      rw [List.getElem?_map] at hd
      cases ha : as[i]? with
      | none => rw [ha] at hd; cases hd
      | some y =>
      rw [ha] at hd
      cases hd
      have hlt : i < as.length := (List.getElem?_eq_some_iff.mp ha).1
      have et : as.take (i + 1) = as.take i ++ [y] := by rw [List.take_add_one, ha]; rfl
      refine hg _ _ _ _ _ (fun σ2 H2 hq => ?_) (hs x y H' (List.mem_of_getElem? ha) ((e0.trans e1).trans p1) (r.ex p1))
      obtain ⟨e2, hw, b, ht, hy, hn⟩ := hq
      refine ⟨hw, ht H2 (Ex.refl _) _ fun H3 e3 => ?_⟩
      have p2' : LstD H3 Dl ((as.take i).filterMap f) := p2.ex (e2.trans e3)
      have pe : Ex H1 H3 := (p1.trans e2).trans e3
      cases b with
      | true =>
        obtain ⟨c, he, hE⟩ := hy rfl
        show te σ2 H3 _
        refine hE H3 e3 _ fun z H4 e4 py => ?_
        obtain ⟨acc, k1, k2⟩ := p2'.ex e4
        have nt : ∀ ys, H4 Dl ≠ some (.tup ys) := fun ys q => by rw [k1] at q; cases q
        have eb : ExB Dl H4 (upd H4 Dl (.lst (acc ++ [z]))) := ExB.upd nt
        have hal : acc.length ≤ 50000 := by
          rw [k2.length]
          refine Nat.le_trans (List.length_filterMap_le ..) ?_
          rw [List.length_take]
          omega
        refine ⟨acc, k1, sz_lt (by omega), eb.anch (pe.trans e4) hD, hlt, ?_⟩
        rw [et, List.filterMap_append]
        refine ⟨_, upd_same, (k2.tk eb.2).append ?_⟩
        simp only [List.filterMap_cons, he, List.filterMap_nil]
        exact .one (Rp.tk eb.2 py)
      | false =>
        show Ex H1 H3 ∧ i + 1 ≤ as.length ∧ _
        refine ⟨pe, hlt, ?_⟩
        rw [et, List.filterMap_append]
        simp only [List.filterMap_cons, hn rfl, List.filterMap_nil, List.append_nil]
        exact p2'
    · obtain ⟨p1, _, p2⟩ := p
      rw [h2.length, List.length_map, List.take_length] at p2
      exact q _ H' (e1.trans p1) ⟨Dl, rfl, fresh_back (e0.trans e1) hD, p2⟩
/-- without a test -/
theorem evn_lcY {α : Type} {K : PySem.W.Frag} {σ : L2.St} {H : Hp} {te tl : TE} {g : TG} {vs : List Nat} {as : List α} {e : α → D} (h : EvLs tl σ H (as.map e)) (hz : as.length ≤ 50000) (f : α → D)
    (hs : ∀ v a H1, a ∈ as → Ex H H1 → Rp H1 v (e a) → g v (wipe σ vs) H1 fun σ2 H2 => Ex H1 H2 ∧ wipe σ2 vs = wipe σ vs ∧ EvD te σ2 H2 (f a))
    (hg : ∀ v σ' H' (Q Q' : L2.St → Hp → Prop), (∀ σ2 H2, Q σ2 H2 → Q' σ2 H2) → g v σ' H' Q → g v σ' H' Q') :
    EvN (tLc (iList K tl) g tYes te vs) σ H (as.map f) :=
  evn_is (evn_lcA h hz (fun a => some (f a)) (fun v a H1 ha e1 rv => hg _ _ _ _ _ (fun σ2 H2 ⟨x1, x2, x3⟩ => ⟨x1, x2, true, et_yes, fun _ => ⟨_, rfl, x3⟩, fun q => nomatch q⟩) (hs v a H1 ha e1 rv)) hg) (filterMap_all fun _ _ => rfl)
abbrev rSortN (w : World) : List V → Hp → VK → Prop := fun vs H Q => ∃ d kvs, vs = [.ref d] ∧ Dct w H d kvs ∧ SortOk (kvs.map (·.1)) ∧ kvs.length ≤ 100000 ∧ ∀ q H', H q = none → Ex H H' → LstD H' q (sortD (kvs.map (·.1))) → Q (.ref q) H'
theorem evn_sortK {w : World} {σ : L2.St} {H : Hp} {td : TE} {d : Addr} {ks : List Path} (ha : Ev td σ H (.ref d)) (hd : Ky eP w H d ks) (hn : ∀ p ∈ ks, p ≠ []) (hl : ks.length ≤ 100000) : EvN (tCB (rSortN w) (tCons td tNil)) σ H ((sortP ks).map pk) := fun H0 e0 Q q =>
  ha H0 e0 _ fun H1 e1 => by
    obtain ⟨o, g, k1⟩ := hd.ex (e0.trans e1)
    have em : (ks.map fun q => (eP.e q, g q)).map (·.1) = ks.map pk := by rw [List.map_map]; rfl
    refine ⟨d, _, rfl, ⟨o, k1⟩, by rw [em]; exact sortOk_pk hn, by rw [List.length_map]; omega, fun a H' hq e hL => ?_⟩
    rw [em, sort_pk] at hL
    exact q _ H' (e1.trans e) ⟨a, rfl, fresh_back (e0.trans e1) hq, hL⟩
/-! ### promises -/
def spAlike : Sp := fun vs H Q _ => ∃ a b, vs = [.str a, .str b] ∧ a.length ≤ 100 ∧ b.length ≤ 100 ∧ RetV (.bl (decide (low a = low b))) H Q
def spHeld : Sp := fun vs H Q _ => ∃ a b, vs = [.str a, .bl b] ∧ a.length ≤ 100 ∧ RetV (.str (hold b a)) H Q
def spRows (w : World) (C : Addr) : Sp := fun vs H Q _ => ∃ h b ks mk, vs = [.ref h] ∧ HallAt w C H h b ks mk ∧ (∀ p ∈ ks, p ≠ []) ∧ ks.length ≤ 1000 ∧ RetP (NewL H (rowsD (sortP ks) mk)) H Q
def spIsBlind (w : World) (C : Addr) : Sp := fun vs H Q _ => ∃ h b ks mk, vs = [.ref h] ∧ HallAt w C H h b ks mk ∧ RetV (.bl b) H Q
def spThere (w : World) (C : Addr) : Sp := fun vs H Q _ => ∃ h v b ks mk p, vs = [.ref h, v] ∧ HallAt w C H h b ks mk ∧ Rp H v (pk p) ∧ p ≠ [] ∧ (∀ q ∈ ks, q ≠ []) ∧ RetP (IsD (optD (thereM b ks p))) H Q
def spAskT (w : World) (C : Addr) : Sp := fun vs H Q _ => ∃ h v b ks mk p, vs = [.ref h, v] ∧ HallAt w C H h b ks mk ∧ Rp H v (pk p) ∧ p ∈ ks ∧ RetV .non H Q
def spIsDr (w : World) (C : Addr) : Sp := fun vs H Q _ => ∃ h v b ks mk p, vs = [.ref h, v] ∧ HallAt w C H h b ks mk ∧ Rp H v (pk p) ∧ RetV (.bl (isDr ks mk p)) H Q
def spAskDr (w : World) (C : Addr) : Sp := fun vs H Q _ => ∃ h v b ks mk p, vs = [.ref h, v] ∧ HallAt w C H h b ks mk ∧ Rp H v (pk p) ∧ isDr ks mk p = true ∧ RetV .non H Q

section
variable {P : Program} {w : World} {K : PySem.W.Frag} {mg : Str → Option Value} {base : Heap}
theorem ok_alike (T : Txt K mg) : FnOk P w K mg base CX0 1 T.alike.f T.alike.fd ["one", "other"] spAlike := by
  refine T.alike.F.ok c_alike (fun vs H Q E h => ?_) (fun cdv A outer s H vs Q E hr h => ?_)
  · obtain ⟨a, b, rfl, _⟩ := h
    rfl
  · obtain ⟨a, b, rfl, la, lb, k⟩ := h
    refine ⟨_, pss_one (ps_ret (pe_cmpR op_eq (pe_lower (pv 0)) (pe_lower (pv 1)) (nomark _))), ?_⟩
    exact s_ret (ev_eqS (ev_case (f := Txt.lower) (ev_var rfl) la) (ev_case (f := Txt.lower) (ev_var rfl) lb)) k
theorem ok_held (T : Txt K mg) : FnOk P w K mg base CX0 1 T.held_as.f T.held_as.fd ["name", "blind"] spHeld := by
  refine T.held_as.F.ok c_held_as (fun vs H Q E h => ?_) (fun cdv A outer s H vs Q E hr h => ?_)
  · obtain ⟨a, b, rfl, _⟩ := h
    rfl
  · obtain ⟨a, b, rfl, la, k⟩ := h
    refine ⟨_, pss_cons (ps_if (pt_val (pv 1)) (pss_one (ps_ret (pe_lower (pv 0)))) pss_nil) (pss_one (ps_ret (pv 0))), ?_⟩
    refine q_when (b := b) (et_B (ev_var rfl)) (fun hb H1 e1 => ?_) (fun hb H1 e1 => ?_)
    · subst hb
      exact s_ret (ev_case (f := Txt.lower) (ev_var rfl) la) fun H2 e2 => k _ (e1.trans e2)
    · subst hb
      exact s_ret (ev_var rfl) fun H2 e2 => k _ (e1.trans e2)
theorem ok_is_blind (T : Txt K mg) : FnOk P w K mg base CX0 1 T.H_is_blind.f T.H_is_blind.fd ["self"] (spIsBlind w T.CH) := by
  refine T.H_is_blind.F.ok c_H_is_blind (fun vs H Q E h => ?_) (fun cdv A outer s H vs Q E hr h => ?_)
  · obtain ⟨a, b, ks, mk, rfl, _⟩ := h
    rfl
  · obtain ⟨a, b, ks, mk, rfl, ⟨dx, m, h1, h2⟩, k⟩ := h
    refine ⟨_, pss_one (ps_ret (pe_fld (pv 0) rfl)), ?_⟩
    exact s_ret (ev_fld (ev_var rfl) h1 T.clH T.nH_blind rfl) k
theorem ok_rows (T : Txt K mg) : FnOk P w K mg base CX0 1 T.H_rows.f T.H_rows.fd ["self"] (spRows w T.CH) := by
  refine T.H_rows.F.ok c_H_rows (fun vs H Q E h => ?_) (fun cdv A outer s H vs Q E hr h => ?_)
  · obtain ⟨a, b, ks, mk, rfl, _⟩ := h
    rfl
  · obtain ⟨a, b, ks, mk, rfl, ⟨dx, m, h1, h2⟩, hn, hl, k⟩ := h
    have hr9 := room9 hr
    refine ⟨_, pss_one (ps_ret (pe_lc (own := [("path", 1)]) (g := gName 1) (tt := tYes) (te := tTup (tCons (tVar 1) (tCons (tOp (rGetN w) (tFld K (tVar 0) "marks") (tVar 1)) tNil))) rfl c_H_rows.nd
      (pi_list (pe_callB (call_sortedN rfl hr9) (by rfl) T.z_sorted (by decide +kernel) (pa_cons (pe_fld (pv 0) rfl) pa_nil)))
      (blkOk_by (N := n_H_rows) (sc := defScope s_H_rows) (by decide +kernel)) (fun _ _ _ _ _ => pg_name (i := 1) c_H_rows.nd rfl (Or.inl rfl)) (fun _ _ _ _ _ => pts_nil)
      (fun _ _ _ _ _ => pe_tup (pa_cons (pv 1) (pa_cons (pe_dgetN (by exact hr9) (pe_fld (pv 0) rfl) (pv 1)) pa_nil))))), ?_⟩
    refine s_retP (evn_lcY (e := pk) (EvN.any (evn_sortK (ev_fld (ev_var rfl) h1 T.clH T.nH_marks rfl) h2.ky hn (by omega))) (by rw [sortP_len]; omega) (fun p => pr (pk p) (mkk (mk p))) (fun v p H1 hp e1 rv => ?_) (fun _ _ _ _ _ => g_mono_name)) k
    have hp' := mem_sortP.mp hp
    exact ⟨Ex.refl _, rfl, evd_tup (eds_cons (evd_var rfl rv) (eds_cons (ev_get (E := eP) (ev_fld (ev_var rfl) (e1 _ _ h1) T.clH T.nH_marks rfl) (h2.ex e1) (evd_var rfl rv) (keyD_pk p) hp') eds_nil)) (by simp)⟩
end
end R
/-! W2: what lies at a place; what is a drawer -/
namespace R
open PySem L2 Evl
theorem find_take {α : Type} {f : α → Bool} {xs : List α} {i : Nat} {x : α} (h : xs[i]? = some x) (hx : f x = true) (hn : ∀ y ∈ xs.take i, f y = false) : xs.find? f = some x := by
  have hlt : i < xs.length := (List.getElem?_eq_some_iff.mp h).1
  have hx' : xs[i] = x := (List.getElem?_eq_some_iff.mp h).2
  have e : xs = xs.take i ++ x :: xs.drop (i + 1) := by
    rw [← hx', ← List.drop_eq_getElem_cons hlt, List.take_append_drop]
  rw [e, List.find?_append]
  have : (xs.take i).find? f = none := by
    rw [List.find?_eq_none]
    intro y hy
    rw [hn y hy]
    exact Bool.false_ne_true
  rw [this]
  simp [hx]
theorem find_not {α : Type} {f : α → Bool} {xs : List α} (hn : ∀ y ∈ xs, f y = false) : xs.find? f = none := by
  rw [List.find?_eq_none]
  intro y hy
  rw [hn y hy]
  exact Bool.false_ne_true
theorem take_snoc {α : Type} {xs : List α} {i : Nat} {x : α} (h : xs[i]? = some x) : xs.take (i + 1) = xs.take i ++ [x] := by
  rw [List.take_add_one, h]
  rfl
section
variable {P : Program} {w : World} {K : PySem.W.Frag} {mg : Str → Option Value} {base : Heap}
theorem ok_there (T : Txt K mg) : FnOk P w K mg base CX0 2 T.H_there.f T.H_there.fd ["self", "place"] (spThere w T.CH) := by
  refine T.H_there.F.ok c_H_there (fun vs H Q E h => ?_) (fun cdv A outer s H vs Q E hr h => ?_)
  · obtain ⟨_, _, _, _, _, _, rfl, _⟩ := h
    rfl
  · obtain ⟨a, v, b, ks, mk, p, rfl, hH, rv, hp, hks, k⟩ := h
    obtain ⟨dx, m, h1, h2⟩ := id hH
    have hr9 := room9 hr
    refine ⟨_, pss_cons (ps_if (pt_cmpR (op_inN hr9) (pv 1) (pe_fld (pv 0) rfl) rfl) (pss_one (ps_ret (pv 1))) pss_nil)
      (pss_cons (ps_if (pt_val (pe_fld (pv 0) rfl)) (pss_one (ps_for PassesOwn.never rfl (pi_keysN (pe_fld (pv 0) rfl)) (pg_name (i := 2) c_H_there.nd rfl (Or.inl rfl))
        (pss_one (ps_if (PW.pt (pw_and (pt_cmpR (op_eqD hr.units) (pe_slice sl_tupA (pv 2) po_none (po_some (pe_un un_neg pe_int))) (pe_slice sl_tupA (pv 1) po_none (po_some (pe_un un_neg pe_int))) (nomark _))
          (pw_and1 (pt_val (pe_call (ok_alike T) hr rfl T.alike.g T.alike.F.kp T.alike.b .nil pass0 (pa_cons (pe_ix ix_tup (pv 2) (pe_un un_neg pe_int) (fun _ _ => rfl)) (pa_cons (pe_ix ix_tup (pv 1) (pe_un un_neg pe_int) (fun _ _ => rfl)) pa_nil))))))) (pss_one (ps_ret (pv 2))) pss_nil)))) pss_nil)
      (pss_one (ps_ret pe_non))), ?_⟩
    refine q_when (et_test (ev_in (E := eP) (evd_var rfl rv) (keyD_pk p) (ev_fld (ev_var rfl) h1 T.clH T.nH_marks rfl) h2.ky)) (fun hb H1 e1 => ?_) (fun hb H1 e1 => ?_)
    · have hin : p ∈ ks := by simpa using hb
      exact s_retE (evd_var rfl (rv.ex e1)) fun x H2 e2 px => k x H2 (e1.trans e2) (by unfold thereM; rw [if_pos hin]; exact px)
    · have hnin : p ∉ ks := by simpa using hb
      have fin : ∀ (σ' : L2.St) (H' : Hp), Ex H H' → thereM b ks p = none → tRet (tC .non) { nx := fun _ H' => Q .non H', rt := Q } σ' H' := fun σ' H' e hn =>
        s_retE evd_non fun x H2 e2 px => k x H2 (e.trans e2) (by rw [hn]; exact px)
      refine q_when (et_B (ev_fld (ev_var rfl) (e1 _ _ h1) T.clH T.nH_blind rfl)) (fun hb H2 e2 => ?_) (fun hb H2 e2 => ?_)
      · subst hb
        have e12 := e1.trans e2
        obtain ⟨o, g, ho⟩ := h2.ky
        refine s_forK (ev_fld (ev_var rfl) (e12 _ _ h1) T.clH T.nH_marks rfl) (ho.ex e12) (fun i σ' H' => (∃ z, σ' = [some (.ref a), some v, z]) ∧ Ex H2 H' ∧ ∀ q ∈ ks.take i, (decide (q.dropLast = p.dropLast) && decide (low (lst q) = low (lst p))) = false)
          (fun H3 e3 => ⟨⟨_, rfl⟩, e3, fun q hq => by cases hq⟩) (fun i σ' H' hp => ⟨Tk.of hp.2.1, fun o ho => hp.2.1 _ _ ho⟩) (fun i x q σ' H' hi rx hp => ?_) (fun σ' H' hp => ?_)
        · obtain ⟨⟨z, rfl⟩, e, hn⟩ := hp
          have hq : q ∈ ks := List.mem_of_getElem? hi
          have rv' := rv.ex (e12.trans e)
          show tIfS _ _ _ _ [some (V.ref a), some v, some x] H'
          refine s_when (et_and (et_test (ev_eqP (evd_init (evd_var rfl rx)) (evd_init (evd_var rfl rv')))) (fun _ => et_B (ev_call (ea_cons (ev_txt (evd_last (evd_var rfl rx) (hks q hq))) (ea_cons (ev_txt (evd_last (evd_var rfl rv') hp)) ea_nil)) (fun H3 e3 Q' q' E' => ⟨lst q, lst p, rfl, ?_, ?_, fun H4 e4 => q' H4 e4⟩)))) (fun hb H3 e3 => ?_) (fun hb H3 e3 => ?_)
          · exact okS_len (rx.names _ (lst_mem (hks q hq)))
          · exact okS_len (rv.names _ (lst_mem hp))
          · refine s_retE (evd_var rfl (rx.ex e3)) fun y H4 e4 py => k y H4 (((e12.trans e).trans e3).trans e4) ?_
            unfold thereM
            rw [if_neg hnin, if_pos rfl, find_take hi hb hn]
            exact py
          · refine ⟨⟨_, rfl⟩, e.trans e3, fun y hy => ?_⟩
            rw [take_snoc hi] at hy
            rcases List.mem_append.mp hy with hy | hy
            · exact hn y hy
            · rw [List.mem_singleton.mp hy]
              exact hb
        · obtain ⟨_, e, hn⟩ := hp
          rw [List.take_length] at hn
          refine fin σ' H' (e12.trans e) ?_
          unfold thereM
          rw [if_neg hnin, if_pos rfl]
          exact find_not hn
      · subst hb
        refine fin _ H2 (e1.trans e2) ?_
        unfold thereM
        rw [if_neg hnin]
        rfl

theorem ok_ask_thing (T : Txt K mg) : FnOk P w K mg base CX0 1 T.H_ask_thing.f T.H_ask_thing.fd ["self", "path"] (spAskT w T.CH) := by
  refine T.H_ask_thing.F.ok c_H_ask_thing (fun vs H Q E h => ?_) (fun cdv A outer s H vs Q E hr h => ?_)
  · obtain ⟨_, _, _, _, _, _, rfl, _⟩ := h
    rfl
  · obtain ⟨a, v, b, ks, mk, p, rfl, ⟨dx, m, h1, h2⟩, rv, hp, k⟩ := h
    refine ⟨_, pss_one (ps_if (pt_cmpR (op_notinN (room9 hr)) (pv 1) (pe_fld (pv 0) rfl) rfl) pss_never pss_nil), ?_⟩
    refine s_when (et_test (ev_notin (E := eP) (evd_var rfl rv) (keyD_pk p) (ev_fld (ev_var rfl) h1 T.clH T.nH_marks rfl) h2.ky)) (fun hb H1 e1 => ?_) (fun hb H1 e1 => k _ e1)
    exact absurd hp (by simpa using hb)
theorem ok_is_drawer (T : Txt K mg) : FnOk P w K mg base CX0 1 T.H_is_drawer.f T.H_is_drawer.fd ["self", "path"] (spIsDr w T.CH) := by
  refine T.H_is_drawer.F.ok c_H_is_drawer (fun vs H Q E h => ?_) (fun cdv A outer s H vs Q E hr h => ?_)
  · obtain ⟨_, _, _, _, _, _, rfl, _⟩ := h
    rfl
  · obtain ⟨a, v, b, ks, mk, p, rfl, ⟨dx, m, h1, h2⟩, rv, k⟩ := h
    refine ⟨_, pss_one (ps_ret (pe_or (pe_cmpR (op_eqD hr.units) (pv 1) (pe_tup pa_nil) (nomark _)) (pe_one (pe_and (pe_cmpR (op_inN (room9 hr)) (pv 1) (pe_fld (pv 0) rfl) rfl) (pe_one (pe_cmp (pc_isN (pe_dgetN (room9 hr) (pe_fld (pv 0) rfl) (pv 1)))))))) ), ?_⟩
    refine s_ret (ev_is (ev_orV (ev_eqP (evd_var rfl rv) evd_nilP) fun _ => ev_andV (ev_in (E := eP) (evd_var rfl rv) (keyD_pk p) (ev_fld (ev_var rfl) h1 T.clH T.nH_marks rfl) h2.ky) fun hb => ev_is (ev_isN (ev_get (E := eP) (ev_fld (ev_var rfl) h1 T.clH T.nH_marks rfl) h2 (evd_var rfl rv) (keyD_pk p) (by simpa using hb))) (by rw [mk_none])) ?_) k
    unfold isDr
    congr
theorem ok_ask_drawer (T : Txt K mg) : FnOk P w K mg base CX0 2 T.H_ask_drawer.f T.H_ask_drawer.fd ["self", "path"] (spAskDr w T.CH) := by
  refine T.H_ask_drawer.F.ok c_H_ask_drawer (fun vs H Q E h => ?_) (fun cdv A outer s H vs Q E hr h => ?_)
  · obtain ⟨_, _, _, _, _, _, rfl, _⟩ := h
    rfl
  · obtain ⟨a, v, b, ks, mk, p, rfl, hH, rv, hd, k⟩ := h
    obtain ⟨dx, m, h1, h2⟩ := id hH
    refine ⟨_, pss_one (ps_if (pt_not (pt_val (pe_meth (pv 0) T.clH T.H_is_drawer.m (ok_is_drawer T) hr T.H_is_drawer.b .nil pass0 (pa_cons (pv 1) pa_nil)))) pss_never pss_nil), ?_⟩
    refine s_when (et_not (et_B (ev_of (evp_meth (as := [.d (pk p)]) (P := fun x _ => x = V.bl (isDr ks mk p)) (ev_var rfl) h1 rfl (eas_d (evd_var rfl rv) eas_nil) fun H1 vs e1 ha Q q => ?_)))) (fun hb H1 e1 => ?_) (fun hb H1 e1 => k _ e1)
    · cases ha with
      | cons a1 t =>
        cases t
        exact ⟨_, _, b, ks, mk, p, rfl, hH.ex e1, a1, fun H2 e2 => q _ H2 e2 rfl⟩
    · rw [hd] at hb
      cases hb
end
end R
/-! W3: a hall's making -/
namespace R
open PySem L2 Evl
/-- what is at L stays, tuples stay -/
def Kp (L : Addr) (H H' : Hp) : Prop := Tk H H' ∧ ∀ o, H L = some o → H' L = some o
section
variable {H H' H1 H2 : Hp} {a b L : Addr}
theorem Kp.refl (L : Addr) (H : Hp) : Kp L H H := ⟨Tk.refl H, fun _ h => h⟩
theorem Kp.ex (x : Kp L H H1) (e : Ex H1 H2) : Kp L H H2 := ⟨x.1.trans (Tk.of e), fun o h => e _ _ (x.2 o h)⟩
theorem Kp.of (e : Ex H H1) : Kp L H H1 := (Kp.refl L H).ex e
theorem Kp.exb (x : Kp L H H1) (hb : L ≠ b) (e : ExB b H1 H2) : Kp L H H2 := ⟨x.1.trans e.2, fun o h => e.1 _ _ hb (x.2 o h)⟩
/-- an object made behind H changes -/
theorem ExB.mut (x : ExB a H H1) (hb : H b = none) (e : ExB b H1 H2) : ExB a H H2 := ⟨fun c o hc h => e.1 c o (ne_of_none h hb) (x.1 c o hc h), x.2.trans e.2⟩
theorem ExB.ex (x : ExB a H H1) (e : Ex H1 H2) : ExB a H H2 := x.trans (ExB.of e)
/-- a change of the same object, back behind the heap where it was not yet -/
theorem Ex.mutB (x : Ex H H1) (hb : H b = Option.none) (e : ExB b H1 H2) : Ex H H2 := ExB.anch x hb e
end
section
variable {K : PySem.W.Frag} {w : World} {σ : L2.St} {H H' : Hp} {ta tb te tk tv to : TE} {v : V} {N : Ends} {tz : TS} {k : D}
/-- o.f = v -/
theorem q_fldV {C o dx : Addr} {fs : List (Str × V)} {f : Str} (hv : Ev tv σ H v) (ho : Ev to σ H (.ref o)) (hi : H o = some (.ins C dx fs)) (c : Cls K C) (n : NoAttr K C f) (hl : fs.length < 1000)
    (kk : ∀ H1, Ex H H1 → tz N σ (upd H1 o (.ins C dx (putF f v fs)))) : tSeq (sFld K to tv f) tz N σ H :=
  hv H (Ex.refl _) _ fun H1 e1 => ho H1 e1 _ fun H2 e2 => ⟨o, C, dx, fs, rfl, (e1.trans e2) _ _ hi, c, n, hl, kk H2 (e1.trans e2)⟩
theorem s_fldV {C o dx : Addr} {fs : List (Str × V)} {f : Str} (hv : Ev tv σ H v) (ho : Ev to σ H (.ref o)) (hi : H o = some (.ins C dx fs)) (c : Cls K C) (n : NoAttr K C f) (hl : fs.length < 1000)
    (kk : ∀ H1, Ex H H1 → N.nx σ (upd H1 o (.ins C dx (putF f v fs)))) : sFld K to tv f N σ H :=
  hv H (Ex.refl _) _ fun H1 e1 => ho H1 e1 _ fun H2 e2 => ⟨o, C, dx, fs, rfl, (e1.trans e2) _ _ hi, c, n, hl, kk H2 (e1.trans e2)⟩
/-- o.f = something new -/
theorem q_fldP {C o dx : Addr} {fs : List (Str × V)} {f : Str} {Pz : V → Hp → Prop} (hv : EvP tv σ H Pz) (up : Up Pz) (ho : Ev to σ H (.ref o)) (hi : H o = some (.ins C dx fs)) (c : Cls K C) (n : NoAttr K C f) (hl : fs.length < 1000)
    (kk : ∀ y H1, Ex H H1 → Pz y H1 → tz N σ (upd H1 o (.ins C dx (putF f y fs)))) : tSeq (sFld K to tv f) tz N σ H :=
  hv H (Ex.refl _) _ fun y H1 e1 py => ho H1 e1 _ fun H2 e2 => ⟨o, C, dx, fs, rfl, (e1.trans e2) _ _ hi, c, n, hl, kk y H2 (e1.trans e2) (up _ _ _ e2 py)⟩
theorem s_fldP {C o dx : Addr} {fs : List (Str × V)} {f : Str} {Pz : V → Hp → Prop} (hv : EvP tv σ H Pz) (up : Up Pz) (ho : Ev to σ H (.ref o)) (hi : H o = some (.ins C dx fs)) (c : Cls K C) (n : NoAttr K C f) (hl : fs.length < 1000)
    (kk : ∀ y H1, Ex H H1 → Pz y H1 → N.nx σ (upd H1 o (.ins C dx (putF f y fs)))) : sFld K to tv f N σ H :=
  hv H (Ex.refl _) _ fun y H1 e1 py => ho H1 e1 _ fun H2 e2 => ⟨o, C, dx, fs, rfl, (e1.trans e2) _ _ hi, c, n, hl, kk y H2 (e1.trans e2) (up _ _ _ e2 py)⟩
/-- a new dict -/
def NewDict (w : World) (H0 : Hp) : V → Hp → Prop := fun v H => ∃ p, v = .ref p ∧ H0 p = none ∧ ∃ o, DctO w H p o []
theorem up_nd (H0 : Hp) : Up (NewDict w H0) := fun _ _ _ e ⟨p, h1, h0, o, h2⟩ => ⟨p, h1, h0, o, h2.ex e⟩
theorem ev_dnew : EvP (tDNewN w) σ H (NewDict w H) := fun H1 e1 Q q p ob hp hd => q _ _ (Ex.new hp) ⟨p, rfl, fresh_back e1 hp, ob, hd⟩
/-- {k: v} -/
theorem q_disp1 {i : Nat} (hk : EvD tk σ H k) (kd : KeyD k) (hv : Ev tv σ H v) (kk : ∀ p H', H p = none → Ex H H' → (∃ o, DctO w H' p o [(k, v)]) → tz N (σ.set i (some (.ref p))) H') : tSeq (tAsg (tDisp1 w tk tv) (gName i)) tz N σ H := fun p hp =>
  hk _ (Ex.new hp) _ fun x H1 e1 px => hv H1 ((Ex.new hp).trans e1) _ fun H2 e2 => by
    refine ⟨x, v, k, rfl, (e1.trans e2) _ _ upd_same, kd.at (Rp.ex e2 px), fun o hd => kk p _ hp ?_ ⟨o, hd⟩⟩
    exact Ex.mut (((Ex.new hp).trans e1).trans e2) hp
end
theorem hF_put (b : Bool) (m m' : Addr) : putF "marks" (.ref m') (hF b m) = hF b m' := by
  show (if ("blind" : Str) = "marks" then _ else (("blind" : Str), V.bl b) :: (if ("marks" : Str) = "marks" then [(("marks" : Str), V.ref m')] else _)) = _
  rw [if_neg (by decide +kernel), if_pos rfl]
  rfl
theorem hF_new (b : Bool) (m : Addr) : putF "marks" (.ref m) (putF "blind" (.bl b) []) = hF b m := by
  show (if ("blind" : Str) = "marks" then _ else (("blind" : Str), V.bl b) :: [(("marks" : Str), V.ref m)]) = _
  rw [if_neg (by decide +kernel)]
  rfl
/-- a hall that may be made -/
structure WfH (b : Bool) (ks : List Path) (mk : Path → Mark) : Prop where
  ne : ∀ p ∈ ks, p ≠ []
  dr : ∀ p ∈ ks, isDr ks mk p.dropLast = true
  no : ∀ i p, ks[i]? = some p → thereM b (ks.take i) p = none
  few : ks.length ≤ 1000
def spHi (w : World) (C : Addr) : Sp := fun vs H Q _ => ∃ a L b ks mk dx, vs = [.ref a, .ref L, .bl b] ∧ H a = some (.ins C dx []) ∧ LstD H L (rowsD ks mk) ∧ WfH b ks mk ∧ ∀ H', ExB a H H' → HallAt w C H' a b ks mk → Q .non H'
theorem isDr_or {ks : List Path} {mk : Path → Mark} {p : Path} (h : isDr ks mk p = true) : p = [] ∨ p ∈ ks ∧ mk p = none := by
  unfold isDr at h
  simpa using h
theorem there_not {b : Bool} {ks : List Path} {p : Path} (h : thereM b ks p = none) : p ∉ ks := by
  unfold thereM at h
  split at h
  · cases h
  · assumption
theorem rows_at {ks : List Path} {mk : Path → Mark} {i : Nat} {d : D} (h : (rowsD ks mk)[i]? = some d) : ∃ p, ks[i]? = some p ∧ d = pr (pk p) (mkk (mk p)) := by
  unfold rowsD at h
  rw [List.getElem?_map] at h
  cases hp : ks[i]? with
  | none => rw [hp] at h; cases h
  | some p => rw [hp] at h; exact ⟨p, rfl, (Option.some.inj h).symm⟩
section
variable {P : Program} {w : World} {K : PySem.W.Frag} {mg : Str → Option Value} {base : Heap}
theorem ok_Hi (T : Txt K mg) : FnOk P w K mg base CX0 3 T.fHi T.fdHi ["self", "rows", "blind"] (spHi w T.CH) := by
  refine T.FHi.ok c_H___init__ (fun vs H Q E h => ?_) (fun cdv A outer s H vs Q E hr h => ?_)
  · obtain ⟨_, _, _, _, _, _, rfl, _⟩ := h
    rfl
  · obtain ⟨a, L, b, ks, mk, dx, rfl, hA, hL, hW, k⟩ := h
    have hr9 := room9 hr
    suffices hh : ∃ t, PSs (cxOf CX0 P w K mg base n_H___init__ "Hall.__init__" (defScope s_H___init__) T.fHi cdv A outer s H E).nox (defBody s_H___init__) t ∧ t { nx := fun _ H' => Q .non H', rt := Q } (start n_H___init__ [.ref a, .ref L, .bl b]) H by
      obtain ⟨t, h1, h2⟩ := hh
      exact ⟨t, h1.nox, h2⟩
    refine ⟨_, pss_cons (ps_fld (pv 0) (pv 2) rfl) (pss_cons (ps_fld (pv 0) pe_dnewN rfl) (pss_cons (ps_set (i := 3) c_H___init__.nd rfl (Or.inl rfl) (pe_disp1 hr9 (pe_tup pa_nil) pe_bl))
      (pss_cons (ps_for PassesOwn.never rfl (pi_list (pv 1)) (pg_tup rfl (pgs_cons (pg_name (i := 4) c_H___init__.nd rfl (Or.inl rfl)) (pgs_cons (pg_name (i := 5) c_H___init__.nd rfl (Or.inl rfl)) pgs_nil)))
        (pss_one (ps_if (pt_cmp (pc_isN (pv 5))) (pss_one (ps_dputN hr9 (pv 3) (pv 4) pe_bl)) pss_nil)))
      (pss_one (ps_for PassesOwn.never rfl (pi_enum (by rfl) T.z_enumerate (pa_cons (pv 1) pa_nil)) (pg_tup rfl (pgs_cons (pg_name (i := 6) c_H___init__.nd rfl (Or.inl rfl)) (pgs_cons (pg_tup rfl (pgs_cons (pg_name (i := 4) c_H___init__.nd rfl (Or.inl rfl)) (pgs_cons (pg_name (i := 5) c_H___init__.nd rfl (Or.inl rfl)) pgs_nil))) pgs_nil)))
        (pss_cons (ps_if (PW.pt (pw_or (pt_cmpR (op_notinN hr9) (pe_slice sl_tupA (pv 4) po_none (po_some (pe_un un_neg pe_int))) (pv 3) rfl) (pw_or1 (pt_cmp (pc_notN (pe_meth (pv 0) T.clH T.H_there.m (ok_there T) hr T.H_there.b .nil pass0 (pa_cons (pv 4) pa_nil))))))) pss_never pss_nil)
          (pss_one (ps_dputN hr9 (pe_fld (pv 0) rfl) (pv 4) (pv 5))))))))), ?_⟩
    refine q_fldV (ev_var rfl) (ev_var rfl) hA T.clH T.nH_blind (by decide) fun H1 e1 => ?_
    have x1 : ExB a H (upd H1 a (.ins T.CH dx (putF "blind" (.bl b) []))) := (ExB.of e1).trans (ExB.upd fun ys q => by rw [e1 _ _ hA] at q; cases q)
    refine q_fldP ev_dnew (up_nd _) (ev_var rfl) upd_same T.clH T.nH_marks (by show 1 < 1000; decide) fun y H2 e2 ⟨m, ey, hm0, om, hm⟩ => ?_
    subst ey
    have hA2 := e2 _ _ upd_same
    have x2 := (x1.ex e2).trans (ExB.upd (a := a) (o := .ins T.CH dx (putF "marks" (.ref m) (putF "blind" (.bl b) []))) fun ys q => by rw [hA2] at q; cases q)
    rw [hF_new] at x2 ⊢
    have nam : a ≠ m := fun q => by rw [← q, upd_same] at hm0; cases hm0
    have hm2 : DctO w (upd H2 a (.ins T.CH dx (hF b m))) m om [] := hm.exb (ExB.upd fun ys q => by rw [hA2] at q; cases q) nam.symm
    have hmH : H m = none := x1.2 |> fun _ => by
      cases hz : H m with
      | none => rfl
      | some o => rw [x1.1 m o nam.symm hz] at hm0; cases hm0
    have nLa : L ≠ a := fun q => by
      obtain ⟨xs, h1, _⟩ := hL
      rw [q, hA] at h1
      cases h1
    have nLm : L ≠ m := fun q => by
      obtain ⟨xs, h1, _⟩ := hL
      rw [q, hmH] at h1
      cases h1
    refine q_disp1 evd_nilP (keyD_pk []) (ev_c (v := .bl true)) fun dd H3 hdd e3 ⟨od, hd⟩ => ?_
    have hA3 := e3 _ _ (upd_same (H := H2) (a := a))
    have x3 := x2.ex e3
    have hm3 := hm2.ex e3
    have nad : a ≠ dd := fun q => by rw [← q, upd_same] at hdd; cases hdd
    have nmd : m ≠ dd := fun q => by rw [← q, hm2.1] at hdd; cases hdd
    have hddH : H dd = none := by
      cases hz : H dd with
      | none => rfl
      | some o => rw [x2.1 dd o nad.symm hz] at hdd; cases hdd
    have nLd : L ≠ dd := fun q => by
      obtain ⟨xs, h1, _⟩ := hL
      rw [q, hddH] at h1
      cases h1
    have ky0 : Ky eP w H3 dd [[]] := ⟨od, fun _ => .bl true, hd⟩
    have hL3 : LstD H3 L (rowsD ks mk) := hL.exb x3 nLa
    have hlen : (rowsD ks mk).length = ks.length := by unfold rowsD; rw [List.length_map]
    refine q_forD (ev_var rfl) hL3 (fun i σ' H' => (∃ z1 z2, σ' = [some (.ref a), some (.ref L), some (.bl b), some (.ref dd), z1, z2, none]) ∧ Kp L H3 H' ∧ ExB a H H' ∧ H' a = some (.ins T.CH dx (hF b m)) ∧ DctO w H' m om [] ∧ ∃ ds, Ky eP w H' dd ds ∧ [] ∈ ds ∧ ds.length ≤ i + 1 ∧ ∀ q ∈ ks.take i, mk q = none → q ∈ ds)
      (fun H4 e4 => ⟨⟨_, _, rfl⟩, Kp.of e4, x3.ex e4, e4 _ _ hA3, hm3.ex e4, [[]], ky0.ex e4, List.mem_cons_self .., Nat.le_refl _, fun q hq => by cases hq⟩) (fun i σ' H' hp => hp.2.1) (fun i v d σ' H' hi rv hp => ?_) (fun σ' H' hp => ?_)
    · obtain ⟨⟨z1, z2, rfl⟩, kp, x4, hA4, hm4, ds, ky, h0, hz, hds⟩ := hp
      obtain ⟨p, hp, rfl⟩ := rows_at hi
      have hlt : i < ks.length := (List.getElem?_eq_some_iff.mp hp).1
      refine g_two rv fun vp vm rp rm => ?_
      refine s_when (et_B (ev_isN (evd_var rfl rm))) (fun hb H5 e5 => ?_) (fun hb H5 e5 => ?_)
      · refine s_putK (E := eP) (p := p) (ev_c (v := .bl true)) (ev_var rfl) (evd_var rfl (rp.ex e5)) (keyD_pk p) (ky.ex e5) (by have := hW.few; omega) fun H6 e6 ky6 => ?_
        have x6 : ExB a H H6 := (x4.ex e5).mut hddH e6
        refine ⟨⟨_, _, rfl⟩, (kp.ex e5).exb nLd e6, x6, e6.1 _ _ nad (e5 _ _ hA4), (hm4.ex e5).exb e6 nmd, _, ky6, mem_kins.mpr (.inr h0), Nat.le_trans (kins_len _ _) (by omega), fun q hq hn => ?_⟩
        rw [take_snoc hp] at hq
        rcases List.mem_append.mp hq with hq | hq
        · exact mem_kins.mpr (.inr (hds q hq hn))
        · exact mem_kins.mpr (.inl (List.mem_singleton.mp hq))
      · refine ⟨⟨_, _, rfl⟩, kp.ex e5, x4.ex e5, e5 _ _ hA4, hm4.ex e5, ds, ky.ex e5, h0, by omega, fun q hq hn => ?_⟩
        rw [take_snoc hp] at hq
        rcases List.mem_append.mp hq with hq | hq
        · exact hds q hq hn
        · rw [List.mem_singleton.mp hq] at hn
          rw [mk_none, decide_eq_false_iff_not] at hb
          exact absurd hn hb
    · obtain ⟨⟨z1, z2, rfl⟩, kp, x4, hA4, hm4, ds, ky, h0, hz, hds⟩ := hp
      rw [hlen, List.take_length] at hds
      have hin : ∀ p ∈ ks, p.dropLast ∈ ds := fun p hp => by
        rcases isDr_or (hW.dr p hp) with e | ⟨e1, e2⟩
        · rw [e]; exact h0
        · exact hds _ e1 e2
      have hL4 : LstD H' L (rowsD ks mk) := hL.exb x4 nLa
      refine s_forE (ea_cons (ev_var rfl) ea_nil) hL4 (fun i σ' H'' => (∃ z1 z2 z3, σ' = [some (.ref a), some (.ref L), some (.bl b), some (.ref dd), z1, z2, z3]) ∧ Kp L H' H'' ∧ ExB a H H'' ∧ Ky eP w H'' dd ds ∧ H'' a = some (.ins T.CH dx (hF b m)) ∧ Fd eP w H'' m (ks.take i) (fun p => mkk (mk p)))
        (fun H4 e4 => ⟨⟨_, _, _, rfl⟩, Kp.of e4, x4.ex e4, ky.ex e4, e4 _ _ hA4, (fd_new hm4).ex e4⟩) (fun i σ' H' hp => hp.2.1) (fun i t v d σ' H'' hi rv ht hp => ?_) (fun σ' H' hp => ?_)
      · obtain ⟨⟨z1, z2, z3, rfl⟩, kp, x5, ky5, hA5, hm5⟩ := hp
        obtain ⟨p, hp, rfl⟩ := rows_at hi
        have hpk : p ∈ ks := List.mem_of_getElem? hp
        have hlt : i < ks.length := (List.getElem?_eq_some_iff.mp hp).1
        refine g_enum2 ht rv fun vp vm H5 e5 rp rm => ?_
        have hth := hW.no i p hp
        refine q_when (et_or (et_test (ev_notin (E := eP) (evd_init (evd_var rfl rp)) (keyD_pk _) (ev_var rfl) (ky5.ex e5))) (fun _ => et_B (ev_notN (evp_meth (as := [.d (pk p)]) (P := IsD (optD (thereM b (ks.take i) p))) (ev_var rfl) (e5 _ _ hA5) rfl (eas_d (evd_var rfl rp) eas_nil) fun H6 vs e6 ha Q' q' => ?_)))) (fun hb H6 e6 => ?_) (fun hb H6 e6 => ?_)
        · cases ha with
          | cons a1 t =>
            cases t
            exact ⟨a, _, b, ks.take i, mk, p, rfl, ⟨dx, m, e6 _ _ (e5 _ _ hA5), (hm5.ex e5).ex e6⟩, a1, hW.ne p hpk, fun q hq => hW.ne q (List.mem_of_mem_take hq), q'⟩
        · rw [hth] at hb
          have := hin p hpk
          simp [optD, this] at hb
        · have hA6 := (e5.trans e6) _ _ hA5
          have hm6 := hm5.ex (e5.trans e6)
          have hnk : p ∉ ks.take i := there_not hth
          refine s_putF (E := eP) (p := p) (evd_var rfl (rm.ex e6)) (ev_fld (ev_var rfl) hA6 T.clH T.nH_marks rfl) (evd_var rfl (rp.ex e6)) (keyD_pk p) hm6 (by have := hW.few; rw [List.length_take]; omega) fun H7 e7 hm7 => ?_
          refine ⟨⟨_, _, _, rfl⟩, (kp.ex (e5.trans e6)).exb nLm e7, (x5.ex (e5.trans e6)).mut hmH e7, (ky5.ex (e5.trans e6)).exb e7 nmd.symm, e7.1 _ _ nam hA6, ?_⟩
          rw [take_snoc hp, ← kins_new hnk]
          refine hm7.congr fun q hq => ?_
          by_cases e : q = p
          · rw [e, fput_same]
          · rw [fput_ne e]
      · obtain ⟨_, _, x5, _, hA5, hH⟩ := hp
        rw [hlen, List.take_length] at hH
        exact k _ x5 ⟨dx, m, hA5, hH⟩
end
end R
/-! W4: a hall's move -/
namespace R
open PySem L2 Evl
def mvP (p place o : Path) : Path := if o.take p.length = p then place ++ o.drop p.length else o
section
variable {K : PySem.W.Frag} {σ : L2.St} {H : Hp} {ta tb tl : TE} {o p : Path}
theorem evd_pre (ha : EvD ta σ H (pk o)) (hl : EvD tl σ H (pk p)) : EvD (tSl (rSlA K) ta tNoPart (tPart (tCB (rLenS K) (tCons tl tNil)))) σ H (pk (o.take p.length)) :=
  evd_is (evd_cut ha eo_none (eo_some (ev_lenT hl))) (by rw [pk_to, List.length_map])
theorem evd_post (ha : EvD ta σ H (pk o)) (hl : EvD tl σ H (pk p)) : EvD (tSl (rSlA K) ta (tPart (tCB (rLenS K) (tCons tl tNil))) tNoPart) σ H (pk (o.drop p.length)) :=
  evd_is (evd_cut ha (eo_some (ev_lenT hl)) eo_none) (by rw [pk_from, List.length_map])
end
structure MvOk (b : Bool) (ks : List Path) (mk : Path → Mark) (p place : Path) (mk' : Path → Mark) : Prop where
  few : ks.length ≤ 1000
  ne : ∀ q ∈ ks, q ≠ []
  len : ∀ q ∈ ks, q.length ≤ 500
  pl : place ≠ []
  pll : place.length ≤ 500
  it : p ∈ ks
  dr : isDr ks mk place.dropLast = true
  fix : mk p = none → place.dropLast = p.dropLast
  free : ∀ q, thereM b ks place = some q → q = p ∧ place ≠ p
  one : (ks.map (mvP p place)).Nodup
  mks : ∀ q ∈ ks, mk' (mvP p place q) = mk q
def spMove (w : World) (C : Addr) : Sp := fun vs H Q _ => ∃ a v u b ks mk p place mk', vs = [.ref a, v, u] ∧ HallAt w C H a b ks mk ∧ Rp H v (pk p) ∧ Rp H u (pk place) ∧ MvOk b ks mk p place mk' ∧
  ∀ H', ExB a H H' → HallAt w C H' a b (ks.map (mvP p place)) mk' → Q .non H'
theorem optD_none {r : Option Path} : decide (optD r = .none) = decide (r = none) := by cases r <;> simp [optD, pk]
section
variable {P : Program} {w : World} {K : PySem.W.Frag} {mg : Str → Option Value} {base : Heap}
theorem one_arg {H : Hp} {a : AS} {vs : List V} (h : AsOk H [a] vs) : ∃ v, vs = [v] ∧ a.ok H v := by
  cases h with
  | cons r t => cases t; exact ⟨_, rfl, r⟩
theorem two_args {H : Hp} {a b : AS} {vs : List V} (h : AsOk H [a, b] vs) : ∃ v u, vs = [v, u] ∧ a.ok H v ∧ b.ok H u := by
  cases h with
  | cons r t =>
    obtain ⟨u, rfl, q⟩ := one_arg t
    exact ⟨_, _, rfl, r, q⟩
theorem three_args {H : Hp} {a b c : AS} {vs : List V} (h : AsOk H [a, b, c] vs) : ∃ v u x, vs = [v, u, x] ∧ a.ok H v ∧ b.ok H u ∧ c.ok H x := by
  cases h with
  | cons r t =>
    obtain ⟨u, x, rfl, q, q'⟩ := two_args t
    exact ⟨_, _, _, rfl, r, q, q'⟩
theorem ok_move (T : Txt K mg) : FnOk P w K mg base CX0 3 T.H_move.f T.H_move.fd ["self", "path", "place"] (spMove w T.CH) := by
  refine T.H_move.F.ok c_H_move (fun vs H Q E h => ?_) (fun cdv A outer s H vs Q E hr h => ?_)
  · obtain ⟨_, _, _, _, _, _, _, _, _, rfl, _⟩ := h
    rfl
  · obtain ⟨a, v, u, b, ks, mk, p, pl, mk', rfl, hH, rv, ru, M, k⟩ := h
    have hr9 := room9 hr
    have hr1 : Room 1 _ := hr.mono (by decide)
    refine ⟨_, pss_cons (ps_expr (pe_meth (pv 0) T.clH T.H_ask_thing.m (ok_ask_thing T) hr1 T.H_ask_thing.b .nil pass0 (pa_cons (pv 1) pa_nil)))
      (pss_cons (ps_expr (pe_meth (pv 0) T.clH T.H_ask_drawer.m (ok_ask_drawer T) hr T.H_ask_drawer.b .nil pass0 (pa_cons (pe_slice sl_tupA (pv 2) po_none (po_some (pe_un un_neg pe_int))) pa_nil)))
      (pss_cons (ps_if (PW.pt (pw_and (pt_cmp (pc_isN (pe_dgetN hr9 (pe_fld (pv 0) rfl) (pv 1)))) (pw_and1 (pt_cmpR (op_neD hr.units) (pe_slice sl_tupA (pv 2) po_none (po_some (pe_un un_neg pe_int))) (pe_slice sl_tupA (pv 1) po_none (po_some (pe_un un_neg pe_int))) (nomark _))))) pss_never pss_nil)
      (pss_cons (ps_set (i := 3) c_H_move.nd rfl (Or.inl rfl) (pe_meth (pv 0) T.clH T.H_there.m (ok_there T) hr T.H_there.b .nil pass0 (pa_cons (pv 2) pa_nil)))
      (pss_cons (ps_if (PW.pt (pw_and (pt_cmp (pc_notN (pv 3))) (pw_and1 (PW.pt (pw_or (pt_cmpR (op_neD hr.units) (pv 3) (pv 1) (nomark _)) (pw_or1 (pt_cmpR (op_eqD hr.units) (pv 2) (pv 1) (nomark _)))))))) pss_never pss_nil)
      (pss_cons (ps_set (i := 4) c_H_move.nd rfl (Or.inl rfl) pe_dnewN)
      (pss_cons (ps_for PassesOwn.never rfl (pi_itemsN (pe_fld (pv 0) rfl)) (pg_tup rfl (pgs_cons (pg_name (i := 5) c_H_move.nd rfl (Or.inl rfl)) (pgs_cons (pg_name (i := 6) c_H_move.nd rfl (Or.inl rfl)) pgs_nil)))
        (pss_cons (ps_if (pt_cmpR (op_eqD hr.units) (pe_slice sl_tupA (pv 5) po_none (po_some (pe_callB call_len_seq (by rfl) T.z_len PySem.boot_len (pa_cons (pv 1) pa_nil)))) (pv 1) (nomark _))
          (pss_one (ps_set (i := 5) c_H_move.nd rfl (Or.inl rfl) (pe_op op_catA (pv 2) (pe_slice sl_tupA (pv 5) (po_some (pe_callB call_len_seq (by rfl) T.z_len PySem.boot_len (pa_cons (pv 1) pa_nil))) po_none)))) pss_nil)
        (pss_one (ps_dputN hr9 (pv 4) (pv 5) (pv 6)))))
      (pss_one (ps_fld (pv 0) (pv 4) rfl)))))))), ?_⟩
    obtain ⟨dx, m, hA, hm⟩ := id hH
    refine q_dropP (evp_meth (as := [.d (pk p)]) (P := fun x _ => x = V.non) (ev_var rfl) hA rfl (eas_d (evd_var rfl rv) eas_nil) fun H1 vs e1 ha Q q => ?_) fun _ H1 e1 _ => ?_
    · obtain ⟨_, rfl, a1⟩ := one_arg ha
      exact ⟨a, _, b, ks, mk, p, rfl, hH.ex e1, a1, M.it, fun H2 e2 => q _ H2 e2 rfl⟩
    refine q_dropP (evp_meth (as := [.d (pk pl.dropLast)]) (P := fun x _ => x = V.non) (ev_var rfl) (e1 _ _ hA) rfl (eas_d (evd_init (evd_var rfl (ru.ex e1))) eas_nil) fun H2 vs e2 ha Q q => ?_) fun _ H2 e2 _ => ?_
    · obtain ⟨_, rfl, a1⟩ := one_arg ha
      exact ⟨a, _, b, ks, mk, _, rfl, hH.ex (e1.trans e2), a1, M.dr, fun H3 e3 => q _ H3 e3 rfl⟩
    have e12 := e1.trans e2
    refine q_when (et_and (et_B (ev_isN (ev_get (E := eP) (ev_fld (ev_var rfl) (e12 _ _ hA) T.clH T.nH_marks rfl) (hm.ex e12) (evd_var rfl (rv.ex e12)) (keyD_pk p) M.it))) fun _ => et_test (ev_neP (evd_init (evd_var rfl (ru.ex e12))) (evd_init (evd_var rfl (rv.ex e12))))) (fun hb H3 e3 => ?_) (fun _ H3 e3 => ?_)
    · rw [Bool.and_eq_true, mk_none] at hb
      have h1 := M.fix (of_decide_eq_true hb.1)
      simp [h1] at hb
    have e13 := e12.trans e3
    refine q_asgP (evp_meth (as := [.d (pk pl)]) (P := IsD (optD (thereM b ks pl))) (ev_var rfl) (e13 _ _ hA) rfl (eas_d (evd_var rfl (ru.ex e13)) eas_nil) fun H4 vs e4 ha Q q => ?_) fun th H4 e4 pth => ?_
    · obtain ⟨_, rfl, a1⟩ := one_arg ha
      exact ⟨a, _, b, ks, mk, pl, rfl, hH.ex (e13.trans e4), a1, M.pl, M.ne, q⟩
    have e14 := e13.trans e4
    refine q_when (b := false) ?_ (fun hb => nomatch hb) (fun _ H5 e5 => ?_)
    · cases hth : thereM b ks pl with
      | none =>
        rw [hth] at pth
        exact et_is (et_and (b := true) (et_B (ev_notN (evd_var rfl pth))) fun hb => by simp [optD] at hb) (by simp [optD])
      | some q =>
        rw [hth] at pth
        obtain ⟨rfl, hne⟩ := M.free q hth
        exact et_is (et_and (et_B (ev_notN (evd_var rfl pth))) fun _ => et_or (et_test (ev_neP (evd_var rfl pth) (evd_var rfl (rv.ex e14)))) fun _ => et_test (ev_eqP (evd_var rfl (ru.ex e14)) (evd_var rfl (rv.ex e14)))) (by simp [optD, hne])
    have e15 := e14.trans e5
    refine q_newD fun dd H6 hdd e6 ⟨od, hd⟩ => ?_
    have e16 := e15.trans e6
    have hm6 := hm.ex e16
    obtain ⟨om, hmo⟩ := hm6
    refine q_forI (ev_fld (ev_var rfl) (e16 _ _ hA) T.clH T.nH_marks rfl) hmo (fun i σ' H' => (∃ z1 z2, σ' = [some (.ref a), some v, some u, some th, some (.ref dd), z1, z2]) ∧ Ex H H' ∧ Kp m H6 H' ∧ Fd eP w H' dd ((ks.take i).map (mvP p pl)) (fun q => mkk (mk' q)))
      (fun H7 e7 => ⟨⟨_, _, rfl⟩, e16.trans e7, Kp.of e7, (fd_new hd).ex e7⟩) (fun i σ' H' hp => hp.2.2.1) (fun i t q σ' H' hi rt hp => ?_) (fun σ' H' hp => ?_)
    · obtain ⟨H0', e0', ⟨z1, z2, rfl⟩, e7, kp, hf⟩ := hp
      have hq : q ∈ ks := List.mem_of_getElem? hi
      have hlt : i < ks.length := (List.getElem?_eq_some_iff.mp hi).1
      have e8 := e7.trans e0'
      refine g_two rt fun vq vm rq rm => ?_
      have fin : ∀ (vo : V) H9, Ex H' H9 → Rp H9 vo (pk (mvP p pl q)) → sDPutN w (tVar 4) (tVar 5) (tVar 6) { nx := fun σ' H' => (∃ z1 z2, σ' = [some (.ref a), some v, some u, some th, some (.ref dd), z1, z2]) ∧ Ex H H' ∧ Kp m H6 H' ∧ Fd eP w H' dd ((ks.take (i+1)).map (mvP p pl)) (fun q => mkk (mk' q)), rt := Q } [some (.ref a), some v, some u, some th, some (.ref dd), some vo, some vm] H9 := fun vo H9 e9 ro => by
        have hf9 := hf.ex (e0'.trans e9)
        refine s_putF (E := eP) (p := mvP p pl q) (evd_var rfl (rm.ex e9)) (ev_var rfl) (evd_var rfl ro) (keyD_pk _) hf9 (by rw [List.length_map, List.length_take]; have := M.few; omega) fun H10 e10 hf10 => ?_
        have hddH : H dd = none := fresh_back e15 hdd
        have nmd : m ≠ dd := fun z => by
          obtain ⟨o, ho⟩ := hm.at
          rw [z, hddH] at ho
          cases ho
        refine ⟨⟨_, _, rfl⟩, R.Ex.mutB (e8.trans e9) hddH e10, (kp.ex (e0'.trans e9)).exb nmd e10, ?_⟩
        have hnk : mvP p pl q ∉ (ks.take i).map (mvP p pl) := fun hz => by
          have h1 := M.one
          have h2 : (ks.take (i + 1)).map (mvP p pl) = (ks.take i).map (mvP p pl) ++ [mvP p pl q] := by rw [take_snoc hi, List.map_append]; rfl
          have h3 : ((ks.take (i + 1)).map (mvP p pl)).Nodup := (List.Sublist.map _ (List.take_sublist _ _)).nodup h1
          rw [h2, List.nodup_append] at h3
          exact h3.2.2 _ hz _ (List.mem_singleton.mpr rfl) rfl
        rw [take_snoc hi, List.map_append, List.map_cons, List.map_nil, ← kins_new hnk]
        refine hf10.congr fun z hz => ?_
        by_cases e : z = mvP p pl q
        · rw [e, fput_same, M.mks q hq]
        · rw [fput_ne e]
      refine q_if (et_test (ev_eqP (evd_pre (evd_var rfl rq) (evd_var rfl (rv.ex e8))) (evd_var rfl (rv.ex e8)))) (fun hb H9 e9 => ?_) (fun hb H9 e9 => ?_)
      · refine s_asgP (evd_catP (evd_var rfl (ru.ex (e8.trans e9))) (evd_post (evd_var rfl (rq.ex e9)) (evd_var rfl (rv.ex (e8.trans e9)))) (by have := M.pll; omega) (by have := M.len q hq; rw [List.length_drop]; omega)) fun vo H10 e10 ro => ?_
        refine fin vo H10 (e9.trans e10) ?_
        unfold mvP
        rw [if_pos (of_decide_eq_true hb)]
        exact ro
      · refine fin vq H9 e9 ?_
        unfold mvP
        rw [if_neg (of_decide_eq_false hb)]
        exact rq.ex e9
    · obtain ⟨⟨z1, z2, rfl⟩, e7, kp, hf⟩ := hp
      rw [List.take_length] at hf
      refine s_fldV (ev_var rfl) (ev_var rfl) (e7 _ _ hA) T.clH T.nH_marks (by show 2 < 1000; decide) fun H8 e8 => ?_
      have hA8 := (e7.trans e8) _ _ hA
      have x : ExB a H8 (upd H8 a (.ins T.CH dx (putF "marks" (.ref dd) (hF b m)))) := ExB.upd fun ys z => by rw [hA8] at z; cases z
      have nda : dd ≠ a := fun z => by
        have := fresh_back e15 hdd
        rw [z, hA] at this
        cases this
      rw [hF_put] at x ⊢
      exact k _ ((ExB.of (e7.trans e8)).trans x) ⟨dx, dd, upd_same, (hf.ex e8).exb x nda⟩
end
end R
/-! W5: where things go -/
namespace R
open PySem L2 Evl
section
variable {α : Type} [DecidableEq α] {E : Enc α} {w : World} {H H' : Hp} {d : Addr} {o : Obj} {ks : List α} {f : α → D}
theorem pd_fn : ∀ {ks : List α} {kvs : List (D × V)}, ks.Nodup → Paired (fun (p : D × V) (q : D × D) => p.1 = q.1 ∧ Rp H p.2 q.2) kvs (ks.map fun q => (E.e q, f q)) → ∃ g : α → V, kvs = ks.map (fun q => (E.e q, g q)) ∧ ∀ q ∈ ks, Rp H (g q) (f q)
  | [], _, _, h => by cases h; exact ⟨fun _ => .non, rfl, fun q hq => nomatch hq⟩
  | q :: ks, _, hn, h => by
    cases h with
    | cons h1 t =>
      rename_i p kvs
      obtain ⟨g, e, hg⟩ := pd_fn (List.nodup_cons.mp hn).2 t
      have hq := (List.nodup_cons.mp hn).1
      refine ⟨fput g q p.2, ?_, fun z hz => ?_⟩
      · rw [List.map_cons, fput_same, e]
        congr 1
        · exact Prod.ext h1.1 rfl
        · refine List.map_congr_left fun z hz => ?_
          rw [fput_ne fun ez : z = q => hq (ez ▸ hz)]
      · by_cases ez : z = q
        · subst ez; rw [fput_same]; exact h1.2
        · rw [fput_ne ez]
          exact hg z ((List.mem_cons.mp hz).resolve_left ez)
theorem dat_fn (hn : ks.Nodup) (h : DatO w H d o (ks.map fun q => (E.e q, f q))) : FnO E w H d o ks f := by
  obtain ⟨kvs, h1, h2⟩ := h
  obtain ⟨g, rfl, hg⟩ := pd_fn (E := E) hn h2
  exact ⟨g, h1, hg⟩
theorem fn_dat (h : FnO E w H d o ks f) : DatO w H d o (ks.map fun q => (E.e q, f q)) := by
  obtain ⟨g, h1, h2⟩ := h
  refine ⟨_, h1, ?_⟩
  clear h1
  induction ks with
  | nil => exact .nil
  | cons q ks ih => exact .cons ⟨rfl, h2 q (List.mem_cons_self ..)⟩ (ih fun z hz => h2 z (List.mem_cons_of_mem _ hz))
def NewFd (E : Enc α) (w : World) (H0 : Hp) (ks : List α) (f : α → D) : V → Hp → Prop := fun v H => ∃ p, v = .ref p ∧ H0 p = none ∧ Fd E w H p ks f
theorem up_fd (H0 : Hp) : Up (NewFd E w H0 ks f) := fun _ _ _ e ⟨p, h1, h0, h2⟩ => ⟨p, h1, h0, h2.ex e⟩
abbrev rDictP (w : World) : List V → Hp → VK → Prop := fun vs H Q => ∃ a ps, vs = [.ref a] ∧ LstD H a (ps.map fun p => pr p.1 p.2) ∧ (ps.map (·.1)).Nodup ∧ (∀ p ∈ ps, (∃ ks, p.1 = .tup ks) ∧ p.1.depth ≤ 8) ∧ ps.length ≤ 100000 ∧
    ∀ d o, H d = none → DatO w (upd H d (xO d o)) d o ps → Q (.ref d) (upd H d (xO d o))
theorem evp_dictF {te : TE} {σ : L2.St} (h : EvLs te σ H (ks.map fun q => pr (E.e q) (f q))) (hn : ks.Nodup) (hk : ∀ q ∈ ks, KeyD (E.e q)) (hl : ks.length ≤ 100000) : EvP (tCB (rDictP w) (tCons te tNil)) σ H (NewFd E w H ks f) := fun H0 e0 Q q =>
  h H0 e0 _ fun v H1 e1 ⟨a, ev, hL⟩ => by
    subst ev
    refine ⟨a, ks.map fun q => (E.e q, f q), rfl, by rw [List.map_map]; exact hL, ?_, fun p hp => ?_, by rw [List.length_map]; exact hl, fun d o hd hD => ?_⟩
    · rw [List.map_map]
      exact List.pairwise_map.mpr (hn.imp fun hne e => hne (E.inj _ _ e))
    · obtain ⟨z, hz, rfl⟩ := List.mem_map.mp hp
      exact hk z hz
    · exact q _ _ (e1.trans (Ex.new hd)) ⟨d, rfl, fresh_back (e0.trans e1) hd, o, dat_fn hn hD⟩
end
def wD (wk : List Path) (wf : Path → Path) : List D := wk.map fun p => pr (pk p) (pk (wf p))
def plc (wk : List Path) (wf : Path → Path) (p : Path) : Path := if p ∈ wk then wf p else p
structure GoodW (ks : List Path) (mk : Path → Mark) (wk : List Path) (wf : Path → Path) : Prop where
  few : ks.length ≤ 40
  kne : ∀ p ∈ ks, p ≠ []
  len : ∀ p ∈ ks, p.length ≤ 6
  kdr : ∀ p ∈ ks, isDr ks mk p.dropLast = true
  one : wk.Nodup
  sub : ∀ p ∈ wk, p ∈ ks
  ne : ∀ p ∈ wk, wf p ≠ []
  wlen : ∀ p ∈ wk, (wf p).length ≤ 6
  dr : ∀ p ∈ wk, isDr ks mk (wf p).dropLast = true
  fix : ∀ p ∈ wk, mk p = none → (wf p).dropLast = p.dropLast
theorem nodup_few {α : Type} [DecidableEq α] : ∀ {wk ks : List α}, wk.Nodup → (∀ p ∈ wk, p ∈ ks) → wk.length ≤ ks.length
  | [], _, _, _ => Nat.zero_le _
  | p :: wk, ks, h, hs => by
    have hp := hs p (List.mem_cons_self ..)
    have h1 := nodup_few (wk := wk) (ks := ks.erase p) (List.nodup_cons.mp h).2 fun q hq => by
      refine (List.mem_erase_of_ne fun e => ?_).mpr (hs q (List.mem_cons_of_mem _ hq))
      subst e
      exact (List.nodup_cons.mp h).1 hq
    rw [List.length_erase_of_mem hp] at h1
    have : 0 < ks.length := List.length_pos_of_mem hp
    rw [List.length_cons]
    omega
theorem GoodW.wfew {ks : List Path} {mk : Path → Mark} {wk : List Path} {wf : Path → Path} (h : GoodW ks mk wk wf) : wk.length ≤ 40 := Nat.le_trans (nodup_few h.one h.sub) h.few
def spGoing (w : World) (C : Addr) : Sp := fun vs H Q _ => ∃ a W b ks mk wk wf, vs = [.ref a, .ref W] ∧ HallAt w C H a b ks mk ∧ LstD H W (wD wk wf) ∧ GoodW ks mk wk wf ∧ RetP (NewFd eP w H (sortP ks) (fun p => pk (plc wk wf p))) H Q
theorem sortP_nodup {ks : List Path} (h : ks.Nodup) : (sortP ks).Nodup := (List.mergeSort_perm ks leP).nodup_iff.mpr h
theorem wD_at {wk : List Path} {wf : Path → Path} {i : Nat} {d : D} (h : (wD wk wf)[i]? = some d) : ∃ p, wk[i]? = some p ∧ d = pr (pk p) (pk (wf p)) := by
  unfold wD at h
  rw [List.getElem?_map] at h
  cases hp : wk[i]? with
  | none => rw [hp] at h; cases h
  | some p => rw [hp] at h; exact ⟨p, rfl, (Option.some.inj h).symm⟩
theorem nodup_take_not {α : Type} {xs : List α} {i : Nat} {x : α} (h : xs.Nodup) (hi : xs[i]? = some x) : x ∉ xs.take i := fun hz => by
  have h3 : (xs.take (i + 1)).Nodup := (List.take_sublist _ _).nodup h
  rw [take_snoc hi, List.nodup_append] at h3
  exact h3.2.2 _ hz _ (List.mem_singleton.mpr rfl) rfl
section
variable {P : Program} {w : World} {K : PySem.W.Frag} {mg : Str → Option Value} {base : Heap}
theorem ok_going (T : Txt K mg) : FnOk P w K mg base CX0 2 T.going.f T.going.fd ["hall", "wishes"] (spGoing w T.CH) := by
  refine T.going.F.ok c_going (fun vs H Q E h => ?_) (fun cdv A outer s H vs Q E hr h => ?_)
  · obtain ⟨_, _, _, _, _, _, _, rfl, _⟩ := h
    rfl
  · obtain ⟨a, W, b, ks, mk, wk, wf, rfl, hH, hW, G, k⟩ := h
    have hr9 := room9 hr
    refine ⟨_, pss_cons (ps_set (i := 2) c_going.nd rfl (Or.inl rfl) (pe_callTy (call_dictPN rfl hr9) (by rfl) T.z_dict (by decide +kernel) (pa_cons (pe_meth0 (pv 0) T.clH T.H_rows.m (ok_rows T) hr T.H_rows.b .nil pass0) pa_nil)))
      (pss_cons (ps_set (i := 3) c_going.nd rfl (Or.inl rfl) pe_dnewN)
      (pss_cons (ps_for PassesOwn.never rfl (pi_keysN (pv 2)) (pg_name (i := 4) c_going.nd rfl (Or.inl rfl)) (pss_one (ps_dputN hr9 (pv 3) (pv 4) (pv 4))))
      (pss_cons (ps_set (i := 5) c_going.nd rfl (Or.inl rfl) pe_dnewN)
      (pss_cons (ps_for PassesOwn.never rfl (pi_enum (by rfl) T.z_enumerate (pa_cons (pv 1) pa_nil)) (pg_tup rfl (pgs_cons (pg_name (i := 6) c_going.nd rfl (Or.inl rfl)) (pgs_cons (pg_tup rfl (pgs_cons (pg_name (i := 4) c_going.nd rfl (Or.inl rfl)) (pgs_cons (pg_name (i := 7) c_going.nd rfl (Or.inl rfl)) pgs_nil))) pgs_nil)))
        (pss_cons (ps_if (PW.pt (pw_or (pt_cmpR (op_notinN hr9) (pv 4) (pv 2) rfl) (pw_or (pt_cmpR (op_inN hr9) (pv 4) (pv 5) rfl) (pw_or1 (pt_not (pt_val (pe_meth (pv 0) T.clH T.H_is_drawer.m (ok_is_drawer T) hr T.H_is_drawer.b .nil pass0 (pa_cons (pe_slice sl_tupA (pv 7) po_none (po_some (pe_un un_neg pe_int))) pa_nil)))))))) pss_never pss_nil)
        (pss_cons (ps_if (PW.pt (pw_and (pt_cmp (pc_isN (pe_dgetN hr9 (pv 2) (pv 4)))) (pw_and1 (pt_cmpR (op_neD hr.units) (pe_slice sl_tupA (pv 7) po_none (po_some (pe_un un_neg pe_int))) (pe_slice sl_tupA (pv 4) po_none (po_some (pe_un un_neg pe_int))) (nomark _))))) pss_never pss_nil)
        (pss_cons (ps_dputN hr9 (pv 5) (pv 4) pe_bl) (pss_one (ps_dputN hr9 (pv 3) (pv 4) (pv 7)))))))
      (pss_one (ps_ret (pv 3))))))), ?_⟩
    obtain ⟨dx, m, hA, hm⟩ := id hH
    have hnd := hm.nodup
    have snd := sortP_nodup hnd
    have slen := sortP_len ks
    have kfew := G.few
    refine q_asgP (evp_dictF (E := eP) (w := w) (ks := sortP ks) (f := fun p => mkk (mk p)) (evp_meth (as := []) (P := IsL (rowsD (sortP ks) mk)) (ev_var rfl) hA rfl eas_nil fun H1 vs e1 ha Q' q => ?_) snd (fun q _ => keyD_pk q) (by omega)) fun vm H1 e1 ⟨dm, evm, hdm0, om, hom⟩ => ?_
    · cases ha
      exact ⟨a, b, ks, mk, rfl, hH.ex e1, G.kne, by omega, fun v H2 e2 ⟨p, h1, _, h2⟩ => q v H2 e2 ⟨p, h1, h2⟩⟩
    subst evm
    refine q_newD fun pd H2 hpd e2 ⟨op, hop⟩ => ?_
    have e12 := e1.trans e2
    obtain ⟨gm, hgm, _⟩ := id (hom.ex e2)
    have hpdH : H pd = none := fresh_back e1 hpd
    have ndp : dm ≠ pd := fun z => by rw [← z, (hom : FnO eP w H1 dm om _ _).choose_spec.1.1] at hpd; cases hpd
    refine q_forK (ev_var rfl) hgm (fun i σ' H' => (∃ z, σ' = [some (.ref a), some (.ref W), some (.ref dm), some (.ref pd), z, none, none, none]) ∧ Kp dm H2 H' ∧ Ex H H' ∧ Fd eP w H' pd ((sortP ks).take i) pk)
      (fun H3 e3 => ⟨⟨_, rfl⟩, Kp.of e3, e12.trans e3, (fd_new hop).ex e3⟩) (fun i σ' H' hp => hp.2.1) (fun i v p σ' H' hi rv hp => ?_) (fun σ' H' hp => ?_)
    · obtain ⟨⟨z, rfl⟩, kp, e3, hf⟩ := hp
      refine s_putF (E := eP) (p := p) (evd_var rfl rv) (ev_var rfl) (evd_var rfl rv) (keyD_pk p) hf (by rw [List.length_take]; omega) fun H4 e4 hf4 => ?_
      refine ⟨⟨_, rfl⟩, kp.exb ndp e4, R.Ex.mutB e3 hpdH e4, ?_⟩
      rw [take_snoc hi, ← kins_new (nodup_take_not snd hi)]
      refine hf4.congr fun q hq => ?_
      by_cases e : q = p
      · rw [e, fput_same]
        rfl
      · rw [fput_ne e]
    obtain ⟨⟨z, rfl⟩, kp, e3, hf⟩ := hp
    rw [List.take_length] at hf
    have hom3 : FnO eP w H' dm om (sortP ks) (fun p => mkk (mk p)) := (hom.ex e2).tk kp.1 kp.2
    refine q_newD fun wd H4 hwd e4 ⟨ow, how⟩ => ?_
    have hwdH : H wd = none := fresh_back e3 hwd
    have npw : pd ≠ wd := fun z => by
      obtain ⟨o, ho⟩ := hf.at
      rw [z, hwd] at ho
      cases ho
    have e34 := e3.trans e4
    have ndw : dm ≠ wd := fun z => by rw [← z, hom3.choose_spec.1.1] at hwd; cases hwd
    have nWp : W ≠ pd := fun z => by obtain ⟨o, ho⟩ := hW.some; rw [z, hpdH] at ho; cases ho
    have nWw : W ≠ wd := fun z => by obtain ⟨o, ho⟩ := hW.some; rw [z, hwdH] at ho; cases ho
    have wlen : (wD wk wf).length = wk.length := by unfold wD; rw [List.length_map]
    have wfew := G.wfew
    refine q_forE (ea_cons (ev_var rfl) ea_nil) (hW.ex e34) (fun i σ' H' => (∃ z1 z2 z3, σ' = [some (.ref a), some (.ref W), some (.ref dm), some (.ref pd), z1, some (.ref wd), z2, z3]) ∧ Kp W H4 H' ∧ Ex H H' ∧ Fd eP w H' dm (sortP ks) (fun p => mkk (mk p)) ∧ Ky eP w H' wd (wk.take i) ∧ Fd eP w H' pd (sortP ks) (fun p => pk (plc (wk.take i) wf p)))
      (fun H5 e5 => ⟨⟨_, _, _, rfl⟩, Kp.of e5, e34.trans e5, ⟨om, (hom3.ex e4).ex e5⟩, (ky_new how).ex e5, ((hf.ex e4).ex e5).congr fun q hq => by unfold plc; rw [List.take_zero, if_neg (by simp)]⟩) (fun i σ' H' hp => hp.2.1) (fun i t v d σ' H' hi rv ht hp => ?_) (fun σ' H' hp => ?_)
    · obtain ⟨⟨z1, z2, z3, rfl⟩, kp5, e5, hdm, hwd, hpd⟩ := hp
      obtain ⟨p, hp, rfl⟩ := wD_at hi
      have hpw : p ∈ wk := List.mem_of_getElem? hp
      have hlt : i < wk.length := (List.getElem?_eq_some_iff.mp hp).1
      have hps : p ∈ sortP ks := mem_sortP.mpr (G.sub p hpw)
      have hpt := nodup_take_not G.one hp
      refine g_enum2 ht rv fun vp vq H6 e6 rp rq => ?_
      have e06 := e5.trans e6
      refine q_when (b := false) (et_is (et_or (et_test (ev_notin (E := eP) (evd_var rfl rp) (keyD_pk p) (ev_var rfl) (hdm.ex e6).ky)) fun _ => et_or (et_test (ev_in (E := eP) (evd_var rfl rp) (keyD_pk p) (ev_var rfl) (hwd.ex e6))) fun _ => et_not (et_B (ev_of (evp_meth (as := [.d (pk (wf p).dropLast)]) (P := fun x _ => x = V.bl (isDr ks mk (wf p).dropLast)) (ev_var rfl) (e06 _ _ hA) rfl (eas_d (evd_init (evd_var rfl rq)) eas_nil) fun H7 vs e7 ha Q q => ?_)))) (by simp [hps, hpt, G.dr p hpw])) (fun hb => nomatch hb) (fun _ H7 e7 => ?_)
      · obtain ⟨_, rfl, a1⟩ := one_arg ha
        exact ⟨a, _, b, ks, mk, _, rfl, hH.ex (e06.trans e7), a1, fun H8 e8 => q _ H8 e8 rfl⟩
      refine q_when (b := false) (et_is (et_and (et_B (ev_isN (ev_get (E := eP) (ev_var rfl) (hdm.ex (e6.trans e7)) (evd_var rfl (rp.ex e7)) (keyD_pk p) hps))) fun _ => et_test (ev_neP (evd_init (evd_var rfl (rq.ex e7))) (evd_init (evd_var rfl (rp.ex e7))))) ?_) (fun hb => nomatch hb) (fun _ H8 e8 => ?_)
      · rw [mk_none]
        by_cases h : mk p = none
        · simp [G.fix p hpw h]
        · simp [h]
      have e78 := e7.trans e8
      have e68 := e6.trans e78
      refine q_putK (E := eP) (p := p) (ev_c (v := .bl true)) (ev_var rfl) (evd_var rfl (rp.ex e78)) (keyD_pk p) (hwd.ex e68) (by rw [List.length_take]; omega) fun H9 e9 hwd9 => ?_
      have rp9 := (rp.ex e78).tk e9.2
      have rq9 := (rq.ex e78).tk e9.2
      refine s_putF (E := eP) (p := p) (evd_var rfl rq9) (ev_var rfl) (evd_var rfl rp9) (keyD_pk p) ((hpd.ex e68).exb e9 npw) (by omega) fun H10 e10 hpd10 => ?_
      refine ⟨⟨_, _, _, rfl⟩, ((kp5.ex e68).exb nWw e9).exb nWp e10, R.Ex.mutB (R.Ex.mutB (e5.trans e68) hwdH e9) hpdH e10, ((hdm.ex e68).exb e9 ndw).exb e10 ndp, ?_, ?_⟩
      · rw [take_snoc hp, ← kins_new hpt]
        exact hwd9.exb e10 npw.symm
      · rw [kins_old hps] at hpd10
        refine hpd10.congr fun q hq => ?_
        unfold plc
        rw [take_snoc hp]
        by_cases e : q = p
        · rw [e, fput_same, if_pos (by simp)]
        · rw [fput_ne e]
          by_cases hqt : q ∈ wk.take i
          · rw [if_pos hqt, if_pos (by simp [hqt])]
          · rw [if_neg hqt, if_neg (by simp [hqt, e])]
    · obtain ⟨⟨z1, z2, z3, rfl⟩, kp5, e5, hdm, hwd, hpd⟩ := hp
      rw [wlen, List.take_length] at hpd
      exact s_retE (evp_ev (P := NewFd eP w H (sortP ks) (fun p => pk (plc wk wf p))) (ev_var rfl) fun H6 e6 => ⟨pd, rfl, hpdH, hpd.ex e6⟩) fun x H6 e6 px => k x H6 (e5.trans e6) px
end
end R
/-! W6: who meets -/
namespace R
open PySem L2 Evl
abbrev Spot := Path × Str
def eS : Enc Spot := ⟨fun s => pr (pk s.1) (.text s.2), fun a b h => by
  obtain ⟨a1, a2⟩ := a
  obtain ⟨b1, b2⟩ := b
  unfold pr at h
  simp only [NestedKey.tup.injEq, List.cons.injEq, NestedKey.text.injEq, and_true] at h
  rw [pk_inj h.1, h.2]⟩
theorem dep_eS (s : Spot) : (eS.e s).depth ≤ 8 := by
  show (pr (pk s.1) (.text s.2)).depth ≤ 8
  unfold pr
  rw [NestedKey.depth, NestedKey.depthAll, NestedKey.depthAll, NestedKey.depthAll, dep_pk, NestedKey.depth]
  decide
theorem keyD_eS (s : Spot) : KeyD (eS.e s) := ⟨⟨_, rfl⟩, dep_eS s⟩
def spotOf (b : Bool) (pl : Path → Path) (p : Path) : Spot := ((pl p).dropLast, hold b (lst (pl p)))
def gks (b : Bool) (pl : Path → Path) (ps : List Path) : List Spot := ps.foldl (fun gk p => kins gk (spotOf b pl p)) []
def grp (b : Bool) (pl : Path → Path) (ps : List Path) (k : Spot) : List Path := ps.filter fun p => decide (spotOf b pl p = k)
abbrev Meet := Path × Path × Path
def pairsK (pl : Path → Path) (xs : List Path) (k : Nat) : List Meet := (List.range k).flatMap fun j => (xs.drop (j + 1)).map fun o => (xs.getD j [], o, pl (xs.getD j []))
def foundM (b : Bool) (pl : Path → Path) (ss : List Path) : List Meet := (gks b pl ss).flatMap fun k => pairsK pl (grp b pl ss k) (grp b pl ss k).length
def trD (m : Meet) : D := .tup [pk m.1, pk m.2.1, pk m.2.2]
theorem gks_snoc (b : Bool) (pl : Path → Path) (ps : List Path) (p : Path) : gks b pl (ps ++ [p]) = kins (gks b pl ps) (spotOf b pl p) := by
  unfold gks
  rw [List.foldl_append]
  rfl
theorem grp_snoc (b : Bool) (pl : Path → Path) (ps : List Path) (p : Path) (k : Spot) : grp b pl (ps ++ [p]) k = if k = spotOf b pl p then grp b pl ps k ++ [p] else grp b pl ps k := by
  unfold grp
  rw [List.filter_append]
  by_cases h : k = spotOf b pl p
  · subst h
    rw [if_pos rfl]
    simp
  · rw [if_neg h]
    have : ¬ spotOf b pl p = k := fun e => h e.symm
    simp [this]
theorem mem_gks {b : Bool} {pl : Path → Path} {k : Spot} : ∀ {ps : List Path}, k ∈ gks b pl ps ↔ ∃ p ∈ ps, spotOf b pl p = k := by
  intro ps
  suffices h : ∀ (ps : List Path) (acc : List Spot), k ∈ ps.foldl (fun gk p => kins gk (spotOf b pl p)) acc ↔ k ∈ acc ∨ ∃ p ∈ ps, spotOf b pl p = k by
    have := h ps []
    simpa [gks] using this
  intro ps
  induction ps with
  | nil => intro acc; simp
  | cons p ps ih =>
    intro acc
    rw [List.foldl_cons, ih, mem_kins]
    constructor
    · rintro ((e | h) | ⟨q, hq, e⟩)
      · exact .inr ⟨p, List.mem_cons_self .., e.symm⟩
      · exact .inl h
      · exact .inr ⟨q, List.mem_cons_of_mem _ hq, e⟩
    · rintro (h | ⟨q, hq, e⟩)
      · exact .inl (.inr h)
      · rcases List.mem_cons.mp hq with h | h
        · subst h; exact .inl (.inl e.symm)
        · exact .inr ⟨q, h, e⟩
theorem grp_nil {b : Bool} {pl : Path → Path} {ps : List Path} {k : Spot} (h : k ∉ gks b pl ps) : grp b pl ps k = [] := by
  unfold grp
  rw [List.filter_eq_nil_iff]
  intro p hp e
  exact h (mem_gks.mpr ⟨p, hp, of_decide_eq_true e⟩)
theorem gks_nodup (b : Bool) (pl : Path → Path) (ps : List Path) : (gks b pl ps).Nodup := by
  unfold gks
  suffices h : ∀ (ps : List Path) (acc : List Spot), acc.Nodup → (ps.foldl (fun gk p => kins gk (spotOf b pl p)) acc).Nodup from h ps [] List.nodup_nil
  intro ps
  induction ps with
  | nil => intro acc h; exact h
  | cons p ps ih => intro acc h; exact ih _ (nodup_kins h)
theorem gks_len (b : Bool) (pl : Path → Path) (ps : List Path) : (gks b pl ps).length ≤ ps.length := by
  unfold gks
  suffices h : ∀ (ps : List Path) (acc : List Spot), (ps.foldl (fun gk p => kins gk (spotOf b pl p)) acc).length ≤ acc.length + ps.length by
    have := h ps []
    simpa using this
  intro ps
  induction ps with
  | nil => intro acc; exact Nat.le_refl _
  | cons p ps ih =>
    intro acc
    have h1 := ih (kins acc (spotOf b pl p))
    have h2 := kins_len acc (spotOf b pl p)
    rw [List.foldl_cons, List.length_cons]
    omega
theorem grp_len (b : Bool) (pl : Path → Path) (ps : List Path) (k : Spot) : (grp b pl ps k).length ≤ ps.length := List.length_filter_le ..
theorem flat_len {α β : Type} {f : α → List β} {n : Nat} : ∀ {xs : List α}, (∀ x ∈ xs, (f x).length ≤ n) → (xs.flatMap f).length ≤ xs.length * n
  | [], _ => by simp
  | x :: xs, h => by
    rw [List.flatMap_cons, List.length_append, List.length_cons, Nat.succ_mul]
    have h1 := h x (List.mem_cons_self ..)
    have h2 := flat_len (xs := xs) fun y hy => h y (List.mem_cons_of_mem _ hy)
    omega
theorem pairs_len (pl : Path → Path) (xs : List Path) (k : Nat) : (pairsK pl xs k).length ≤ k * xs.length := by
  unfold pairsK
  refine Nat.le_trans (flat_len (n := xs.length) fun j _ => ?_) (by rw [List.length_range]; exact Nat.le_refl _)
  rw [List.length_map, List.length_drop]
  omega
theorem pairs_succ (pl : Path → Path) (xs : List Path) (k : Nat) : pairsK pl xs (k + 1) = pairsK pl xs k ++ (xs.drop (k + 1)).map fun o => (xs.getD k [], o, pl (xs.getD k [])) := by
  unfold pairsK
  rw [List.range_succ, List.flatMap_append, List.flatMap_cons, List.flatMap_nil, List.append_nil]
theorem sortOk_tr (ms : List Meet) : SortOk (ms.map trD) where
  alike := fun d hd e he => by
    obtain ⟨_, h1, rfl⟩ := List.mem_map.mp hd
    obtain ⟨_, h2, rfl⟩ := List.mem_map.mp he
    obtain ⟨p, _, rfl⟩ := List.mem_map.mp h1
    obtain ⟨q, _, rfl⟩ := List.mem_map.mp h2
    simp only [trD, NestedKey.data, NestedKey.datas, PySem.W.alike, PySem.W.alikeAll]
    simp only [al_pk, Bool.and_self]
  tup := fun d hd => by
    obtain ⟨p, hp, rfl⟩ := List.mem_map.mp hd
    exact ⟨_, _, rfl⟩
  dep := fun d hd => by
    obtain ⟨p, hp, rfl⟩ := List.mem_map.mp hd
    unfold trD
    rw [NestedKey.depth, NestedKey.depthAll, NestedKey.depthAll, NestedKey.depthAll, NestedKey.depthAll, dep_pk, dep_pk, dep_pk]
    decide
abbrev rSortL : List V → Hp → VK → Prop := fun vs H Q => ∃ p ds, vs = [.ref p] ∧ LstD H p ds ∧ SortOk ds ∧ ds.length ≤ 100000 ∧ ∀ q H', H q = none → Ex H H' → LstD H' q (sortD ds) → Q (.ref q) H'
theorem evn_sortL {σ : L2.St} {H : Hp} {te : TE} {ds : List D} (h : EvLs te σ H ds) (hs : SortOk ds) (hl : ds.length ≤ 100000) : EvN (tCB rSortL (tCons te tNil)) σ H (sortD ds) := fun H0 e0 Q q =>
  h H0 e0 _ fun v H1 e1 ⟨a, ev, hL⟩ => by
    subst ev
    exact ⟨a, ds, rfl, hL, hs, hl, fun p H' hp e hL' => q _ H' (e1.trans e) ⟨p, rfl, fresh_back (e0.trans e1) hp, hL'⟩⟩

/-! ### a dict of lists -/
structure ThAt (w : World) (H0 H : Hp) (d : Addr) (gk : List Spot) (al : Spot → Addr) (gr : Spot → List Path) : Prop where
  ky : ∃ o, KyO eS w H d o gk (fun k => .ref (al k))
  ls : ∀ k ∈ gk, H0 (al k) = none ∧ LstD H (al k) ((gr k).map pk)
  inj : ∀ k ∈ gk, ∀ k' ∈ gk, al k = al k' → k = k'
section
variable {K : PySem.W.Frag} {w : World} {σ : L2.St} {H H0 : Hp} {d : Addr} {gk : List Spot} {al : Spot → Addr} {gr : Spot → List Path} {N : Ends} {td tk te : TE} {k : Spot} {p : Path}
theorem ThAt.ex {H' : Hp} (h : ThAt w H0 H d gk al gr) (e : Ex H H') : ThAt w H0 H' d gk al gr where
  ky := let ⟨o, h⟩ := h.ky; ⟨o, h.ex e⟩
  ls := fun k hk => ⟨(h.ls k hk).1, (h.ls k hk).2.ex e⟩
  inj := h.inj
theorem lst_no {H : Hp} {a : Addr} {ds : List D} {o : Obj} (h : LstD H a ds) : H a ≠ some (xO a o) := fun e => by
  obtain ⟨xs, h1, _⟩ := h
  rw [h1] at e
  cases e
/-- d.setdefault(k, []).append(p) -/
theorem s_thApp (hd : Ev td σ H (.ref d)) (hk : EvD tk σ H (eS.e k)) (he : ∀ H', Tk H H' → EvD te σ H' (pk p)) (h : ThAt w H0 H d gk al gr) (x0 : ExB d H0 H) (hn : k ∉ gk → gr k = []) (hg : gk.length < 1000) (hz : (gr k).length < 1000)
    (kk : ∀ H2 al', ExB d H0 H2 → ThAt w H0 H2 d (kins gk k) al' (fput gr k (gr k ++ [p])) → N.nx σ H2) :
    tDrop (tBM K "list" rAppend (tSetDefN w td (tCons tk (tCons (tLst tNil) tNil))) (tCons te tNil)) N σ H := by
  refine hd H (Ex.refl H) _ fun H1 e1 => ?_
  have h1 := h.ex e1
  obtain ⟨o1, ho1⟩ := h1.ky
  refine ⟨d, _, rfl, ⟨o1, ho1⟩, hk H1 e1 _ fun y H2 e2 py => ⟨Nat.zero_le _, fun l hl => ?_⟩⟩
  have e02 := e1.trans e2
  have hL2 : LstD (upd H2 l (.lst [])) l (([] : List Path).map pk) := ⟨[], upd_same, .nil⟩
  have e3 : Ex H (upd H2 l (.lst [])) := e02.trans (Ex.new hl)
  have h3 := h.ex e3
  obtain ⟨o3, ho3⟩ := h3.ky
  have hlH : H l = none := fresh_back e02 hl
  have nld : l ≠ d := fun z => by
    obtain ⟨o, ho⟩ := h.ky
    rw [z, ho.1] at hlH
    cases hlH
  have hl0 : H0 l = none := by
    cases hz : H0 l with
    | none => rfl
    | some o => rw [x0.1 l o nld hz] at hlH; cases hlH
  refine ⟨y, .ref l, _, eS.e k, rfl, ⟨o3, ho3⟩, (keyD_eS k).at (Rp.ex (Ex.new hl) py), by rw [List.length_map]; omega, fun v hv => ?_, fun hv o' hD => ?_⟩
  · rw [val_map eS] at hv
    by_cases hin : k ∈ gk
    · rw [if_pos hin] at hv
      cases hv
      have hL := (h3.ls k hin).2
      refine ⟨Or.inl ⟨rfl, hL.choose, sq_of hL.choose_spec.1⟩, he _ (Tk.of e3) _ (Ex.refl _) _ fun z H4 e4 pz => ?_⟩
      obtain ⟨xs, k1, k2⟩ := hL.ex e4
      refine ⟨al k, xs, z, rfl, rfl, k1, sz_lt (by rw [k2.length, List.length_map]; omega), ?_⟩
      have nt : ∀ ys, H4 (al k) ≠ some (.tup ys) := fun ys q => by rw [k1] at q; cases q
      have eb : ExB (al k) H4 (upd H4 (al k) (.lst (xs ++ [z]))) := ExB.upd nt
      have ha0 := (h.ls k hin).1
      refine kk _ al (((x0.ex e3).ex e4).mut ha0 eb) ?_
      rw [kins_old hin]
      have h4 := h3.ex e4
      have nad : al k ≠ d := fun z => by
        obtain ⟨o, ho⟩ := h4.ky
        rw [z, ho.1] at k1
        cases k1
      refine ⟨?_, fun k' hk' => ⟨(h4.ls k' hk').1, ?_⟩, h4.inj⟩
      · obtain ⟨o, ho⟩ := h4.ky
        exact ⟨o, ho.exb eb nad.symm⟩
      · by_cases ek : k' = k
        · subst ek
          rw [fput_same, List.map_append]
          exact ⟨_, upd_same, (k2.tk eb.2).append (.one (Rp.tk eb.2 pz))⟩
        · rw [fput_ne ek]
          exact (h4.ls k' hk').2.exb eb fun z => ek (h4.inj _ hk' _ hin z)
    · rw [if_neg hin] at hv
      cases hv
  · rw [val_map eS] at hv
    by_cases hin : k ∈ gk
    · rw [if_pos hin] at hv; cases hv
    · have hxd : ExB d (upd H2 l (.lst [])) (upd (upd H2 l (.lst [])) d (xO d o')) := xo_exb ⟨_, ho3.1⟩
      have hL5 := hL2.exb hxd nld
      have hky := ho3.put hD
      have x5 : ExB d H0 (upd (upd H2 l (.lst [])) d (xO d o')) := (x0.ex e3).trans hxd
      refine ⟨Or.inl ⟨rfl, hL5.choose, sq_of hL5.choose_spec.1⟩, ?_⟩
      refine he _ ((Tk.of e3).trans hxd.2) _ (Ex.refl _) _ fun z H4 e4 pz => ?_
      obtain ⟨xs, k1, k2⟩ := hL5.ex e4
      cases k2
      refine ⟨l, [], z, rfl, rfl, k1, by decide, ?_⟩
      have eb : ExB l H4 (upd H4 l (.lst ([] ++ [z]))) := ExB.upd fun ys q => by rw [k1] at q; cases q
      have hg2 : ∀ k' ∈ gk, al k' ≠ l := fun k' hk' z => by
        obtain ⟨ys, j1, _⟩ := (h.ls k' hk').2
        rw [z, hlH] at j1
        cases j1
      have hkg : ∀ k' ∈ gk, k' ≠ k := fun k' hk' z => hin (z ▸ hk')
      refine kk _ (fput al k l) ((x5.ex e4).mut hl0 eb) ⟨?_, fun k' hk' => ?_, fun k' hk' k'' hk'' e => ?_⟩
      · refine ⟨o', DctO.exb eb nld.symm (DctO.ex e4 ?_)⟩
        have : (fun z => V.ref (fput al k l z)) = fput (fun z => V.ref (al z)) k (.ref l) := by
          funext z
          unfold fput
          split <;> rfl
        show KyO eS w _ d o' (kins gk k) (fun z => V.ref (fput al k l z))
        rw [this]
        exact hky
      · by_cases ek : k' = k
        · subst ek
          rw [fput_same, fput_same, hn hin]
          exact ⟨hl0, [z], upd_same, .one (Rp.tk eb.2 pz)⟩
        · rw [fput_ne ek, fput_ne ek]
          have hk2 := (mem_kins.mp hk').resolve_left ek
          have nad : al k' ≠ d := fun z => by
            obtain ⟨o, ho⟩ := h.ky
            obtain ⟨ys, j1, _⟩ := (h.ls k' hk2).2
            rw [z, ho.1] at j1
            cases j1
          exact ⟨(h.ls k' hk2).1, ((((h3.ls k' hk2).2).exb hxd nad).ex e4).exb eb (hg2 k' hk2)⟩
      · by_cases ek : k' = k
        · by_cases ek2 : k'' = k
          · rw [ek, ek2]
          · subst ek
            rw [fput_same, fput_ne ek2] at e
            exact absurd e.symm (hg2 k'' ((mem_kins.mp hk'').resolve_left ek2))
        · by_cases ek2 : k'' = k
          · subst ek2
            rw [fput_same, fput_ne ek] at e
            exact absurd e (hg2 k' ((mem_kins.mp hk').resolve_left ek))
          · rw [fput_ne ek, fput_ne ek2] at e
            exact h.inj k' ((mem_kins.mp hk').resolve_left ek) k'' ((mem_kins.mp hk'').resolve_left ek2) e
end
end R
/-! W7: meetings, told -/
namespace R
open PySem L2 Evl
theorem okS_all {s : Str} (h : okS s = true) : ∀ c ∈ s.cps.toList, c < 128 := fun c hc => by
  have h1 := okS_asc h
  rw [← Array.all_toList, List.all_eq_true] at h1
  exact of_decide_eq_true (h1 c hc)
theorem okS_of {l : Array Nat} (h : ∀ c ∈ l.toList, c < 128) (hl : l.size ≤ 100) : okS ⟨l⟩ = true := by
  unfold okS
  rw [Bool.and_eq_true, ← Array.all_toList, List.all_eq_true]
  exact ⟨fun c hc => decide_eq_true (h c hc), decide_eq_true hl⟩
theorem low_eq {s : Str} (h : okS s = true) : low s = ⟨s.cps.map PyProof.Rows.lo1⟩ := PyProof.Rows.lower_ascii (okS_all h)
theorem lo1_lt {c : Nat} (h : c < 128) : PyProof.Rows.lo1 c < 128 := by
  unfold PyProof.Rows.lo1
  split <;> omega
theorem okS_low {s : Str} (h : okS s = true) : okS (low s) = true := by
  rw [low_eq h]
  refine okS_of (fun c hc => ?_) (by rw [Array.size_map]; exact okS_len h)
  rw [Array.toList_map] at hc
  obtain ⟨d, hd, rfl⟩ := List.mem_map.mp hc
  exact lo1_lt (okS_all h d hd)
theorem okS_hold {s : Str} {b : Bool} (h : okS s = true) : okS (hold b s) = true := by
  unfold hold
  split
  · exact okS_low h
  · exact h
def meetD (b : Bool) (wk : List Path) (wf : Path → Path) (ks : List Path) : List D := sortD ((foundM b (plc wk wf) (sortP (sortP ks))).map trD)
def spMeet (w : World) (C : Addr) : Sp := fun vs H Q _ => ∃ a W b ks mk wk wf, vs = [.ref a, .ref W] ∧ HallAt w C H a b ks mk ∧ LstD H W (wD wk wf) ∧ GoodW ks mk wk wf ∧ RetP (NewL H (meetD b wk wf ks)) H Q
def spAskW (w : World) (C : Addr) : Sp := fun vs H Q _ => ∃ a W b ks mk wk wf, vs = [.ref a, .ref W] ∧ HallAt w C H a b ks mk ∧ LstD H W (wD wk wf) ∧ GoodW ks mk wk wf ∧ foundM b (plc wk wf) (sortP (sortP ks)) = [] ∧ RetV (.bl true) H Q
theorem GoodW.pne {ks : List Path} {mk : Path → Mark} {wk : List Path} {wf : Path → Path} (G : GoodW ks mk wk wf) {p : Path} (h : p ∈ ks) : plc wk wf p ≠ [] := by
  unfold plc
  split
  · rename_i h1; exact G.ne p h1
  · exact G.kne p h
theorem GoodW.plen {ks : List Path} {mk : Path → Mark} {wk : List Path} {wf : Path → Path} (G : GoodW ks mk wk wf) {p : Path} (h : p ∈ ks) : (plc wk wf p).length ≤ 6 := by
  unfold plc
  split
  · rename_i h1; exact G.wlen p h1
  · exact G.len p h
section
variable {K : PySem.W.Frag} {w : World} {α : Type} [DecidableEq α] {E : Enc α} {σ : L2.St} {H : Hp} {d : Addr} {ks : List α} {td : TE} {N : Ends}
/-- for v in d.values(), anything -/
theorem s_forW {g : TG} {tb : TS} {o : Obj} {gv : α → V} (h : Ev td σ H (.ref d)) (h1 : KyO E w H d o ks gv) (Pv : Nat → L2.St → Hp → Prop) (h0 : ∀ H1, Ex H H1 → Pv 0 σ H1) (hk : ∀ i σ' H', Pv i σ' H' → Tk H H' ∧ ∀ o, H d = some o → H' d = some o)
    (hs : ∀ i p σ' H', ks[i]? = some p → Pv i σ' H' → g (gv p) σ' H' fun σ2 H2 => tb { N with nx := Pv (i + 1), ct := Pv (i + 1), bk := N.nx } σ2 H2) (he : ∀ σ' H', Pv ks.length σ' H' → N.nx σ' H') : tFor (iValsN w td) g tb N σ H :=
  h H (Ex.refl _) _ fun H1 e1 => ⟨d, o, _, rfl, h1.ex e1, for_valsN (w := w) (d := d) (o := o) Pv (h0 H1 e1) (fun i σ' H' _ p => KyO.tk (hk i σ' H' p).1 (hk i σ' H' p).2 h1) (fun i k v σ' H' hi p => by
    rw [List.getElem?_map] at hi
    cases hq : ks[i]? with
    | none => rw [hq] at hi; cases hi
    | some z =>
      rw [hq] at hi
      cases hi
      exact hs i z σ' H' hq p) (fun σ' H' p => he σ' H' (by rw [List.length_map] at p; exact p))⟩
theorem q_forW {g : TG} {tb : TS} {tz : TS} {o : Obj} {gv : α → V} (h : Ev td σ H (.ref d)) (h1 : KyO E w H d o ks gv) (Pv : Nat → L2.St → Hp → Prop) (h0 : ∀ H1, Ex H H1 → Pv 0 σ H1) (hk : ∀ i σ' H', Pv i σ' H' → Tk H H' ∧ ∀ o, H d = some o → H' d = some o)
    (hs : ∀ i p σ' H', ks[i]? = some p → Pv i σ' H' → g (gv p) σ' H' fun σ2 H2 => tb { N with nx := Pv (i + 1), ct := Pv (i + 1), bk := tz N } σ2 H2) (he : ∀ σ' H', Pv ks.length σ' H' → tz N σ' H') : tSeq (tFor (iValsN w td) g tb) tz N σ H :=
  s_forW (N := { N with nx := tz N }) h h1 Pv h0 hk hs he
end
section
variable {P : Program} {w : World} {K : PySem.W.Frag} {mg : Str → Option Value} {base : Heap}
theorem ok_meetings (T : Txt K mg) : FnOk P w K mg base CX0 3 T.meetings.f T.meetings.fd ["hall", "wishes"] (spMeet w T.CH) := by
  refine T.meetings.F.ok c_meetings (fun vs H Q E h => ?_) (fun cdv A outer s H vs Q E hr h => ?_)
  · obtain ⟨_, _, _, _, _, _, _, rfl, _⟩ := h
    rfl
  · obtain ⟨a, W, b, ks, mk, wk, wf, rfl, hH, hW, G, k⟩ := h
    have hr9 := room9 hr
    have hr1 : Room 1 _ := hr.mono (by decide)
    refine ⟨_, pss_cons (ps_set (i := 2) c_meetings.nd rfl (Or.inr rfl) (pe_call (ok_going T) hr rfl T.going.g T.going.F.kp T.going.b .nil pass0 (pa_cons (pv 0) (pa_cons (pv 1) pa_nil))))
      (pss_cons (ps_set (i := 3) c_meetings.nd rfl (Or.inl rfl) (pe_meth0 (pv 0) T.clH T.H_is_blind.m (ok_is_blind T) hr1 T.H_is_blind.b .nil pass0))
      (pss_cons (ps_set (i := 4) c_meetings.nd rfl (Or.inl rfl) pe_dnewN)
      (pss_cons (ps_for PassesOwn.never rfl (pi_list (pe_callB (call_sortedN rfl hr9) (by rfl) T.z_sorted (by decide +kernel) (pa_cons (pv 2) pa_nil))) (pg_name (i := 5) c_meetings.nd rfl (Or.inl rfl))
        (pss_cons (ps_set (i := 6) c_meetings.nd rfl (Or.inl rfl) (pe_dgetN hr9 (pv 2) (pv 5)))
        (pss_one (ps_expr (pe_bm PySem.F.plainAttrs_list PySem.F.slot_list_append PySem.F.type_list_append mt_append
          (pe_setdefN hr9 (pv 4) (pa_cons (pe_tup (pa_cons (pe_slice sl_tupA (pv 6) po_none (po_some (pe_un un_neg pe_int))) (pa_cons (pe_call (ok_held T) hr1 rfl T.held_as.g T.held_as.F.kp T.held_as.b .nil pass0 (pa_cons (pe_ix ix_tup (pv 6) (pe_un un_neg pe_int) (fun _ _ => rfl)) (pa_cons (pv 3) pa_nil))) pa_nil))) (pa_cons (pe_lst pa_nil) pa_nil)))
          (pa_cons (pv 5) pa_nil))))))
      (pss_cons (ps_set (i := 7) c_meetings.nd rfl (Or.inl rfl) (pe_lst pa_nil))
      (pss_cons (ps_for PassesOwn.never rfl (pi_valuesN (pv 4)) (pg_name (i := 8) c_meetings.nd rfl (Or.inr rfl))
        (pss_one (ps_for PassesOwn.never rfl (pi_range1 rfl T.z_range (pa_cons (pe_callB call_len_seq (by rfl) T.z_len PySem.boot_len (pa_cons (pv 8) pa_nil)) pa_nil)) (pg_name (i := 9) c_meetings.nd rfl (Or.inr rfl))
          (pss_one (ps_expr (pe_bm PySem.F.plainAttrs_list PySem.F.slot_list_extend PySem.F.type_list_extend mt_extend (pv 7) (pa_cons
            (pe_lc (own := [("other", 10)]) (g := gName 10) (tt := tYes) (te := tTup (tCons (tOp (rIxL K) (tVar 8) (tVar 9)) (tCons (tVar 10) (tCons (tOp (rGetN w) (tVar 2) (tOp (rIxL K) (tVar 8) (tVar 9))) tNil)))) rfl c_meetings.nd
              (pi_list (pe_slice sl_list (pv 8) (po_some (pe_op op_add (pv 9) pe_int)) po_none)) (blkOk_by (N := n_meetings) (sc := defScope s_meetings) (by decide +kernel)) (fun _ _ _ _ _ => pg_name (i := 10) c_meetings.nd rfl (Or.inl rfl)) (fun _ _ _ _ _ => pts_nil)
              (fun _ _ _ _ _ => pe_tup (pa_cons (pe_ix ix_list (pv 8) (pv 9) (fun _ _ => rfl)) (pa_cons (pv 10) (pa_cons (pe_dgetN (by exact hr9) (pv 2) (pe_ix ix_list (pv 8) (pv 9) (fun _ _ => rfl))) pa_nil))))) pa_nil)))))))
      (pss_one (ps_ret (pe_callB (call_sortedL hr9) (by rfl) T.z_sorted (by decide +kernel) (pa_cons (pv 7) pa_nil))))))))), ?_⟩
    obtain ⟨dx, m, hA, hm⟩ := id hH
    have kfew := G.few
    have slen := sortP_len ks
    have slen2 := sortP_len (sortP ks)
    have snd := sortP_nodup (sortP_nodup hm.nodup)
    have inks : ∀ {p}, p ∈ sortP (sortP ks) → p ∈ ks := fun hp => mem_sortP.mp (mem_sortP.mp hp)
    refine q_asgP (evp_call (as := [.v (.ref a), .v (.ref W)]) (P := NewFd eP w H (sortP ks) (fun p => pk (plc wk wf p))) (eas_v (ev_var rfl) (eas_v (ev_var rfl) eas_nil)) fun H1 vs e1 ha Q' q => ?_) fun vp H1 e1 ⟨pd, evp, hpd0, hpd⟩ => ?_
    · obtain ⟨_, _, rfl, rfl, rfl⟩ := two_args ha
      exact ⟨a, W, b, ks, mk, wk, wf, rfl, hH.ex e1, hW.ex e1, G, fun v H2 e2 ⟨p, h1, h0, h2⟩ => q v H2 e2 ⟨p, h1, fresh_back e1 h0, h2⟩⟩
    subst evp
    refine q_asg (ev_of (evp_meth (as := []) (P := fun x _ => x = V.bl b) (ev_var rfl) (e1 _ _ hA) rfl eas_nil fun H2 vs e2 ha Q' q => ?_)) fun H2 e2 => ?_
    · cases ha
      exact ⟨a, b, ks, mk, rfl, hH.ex (e1.trans e2), fun H3 e3 => q _ H3 e3 rfl⟩
    have e12 := e1.trans e2
    have hpd2 := hpd.ex e2
    refine q_newD fun d H3 hd0 e3 ⟨od, hd⟩ => ?_
    have e13 := e12.trans e3
    have hpd3 := hpd2.ex e3
    have npd : pd ≠ d := fun z => by
      obtain ⟨o, ho⟩ := hpd2.at
      rw [z, hd0] at ho
      cases ho
    let pl := plc wk wf
    let ss := sortP (sortP ks)
    refine q_forN (ds := ss.map pk) (EvN.any (evn_sortK (ev_var rfl) hpd3.ky (fun p hp => G.kne p (mem_sortP.mp hp)) (by omega)))
      (fun L H4 i σ' H' => (∃ z1 z2, σ' = [some (.ref a), some (.ref W), some (.ref pd), some (.bl b), some (.ref d), z1, z2, none, none, none, none]) ∧ L ≠ d ∧ ExB d H4 H' ∧ ∃ al, ThAt w H4 H' d (gks b pl (ss.take i)) al (grp b pl (ss.take i)))
      (fun L H4 e4 hL => ⟨⟨_, _, rfl⟩, fun z => lst_no (z ▸ hL) (e4 _ _ hd.1), ExB.refl _ _, fun _ => 0, ⟨⟨od, DctO.ex e4 hd⟩, fun k hk => (by cases hk), fun k hk => (by cases hk)⟩⟩)
      (fun L H4 i σ' H' hp => ⟨hp.2.2.1.2, fun o ho => hp.2.2.1.1 _ _ hp.2.1 ho⟩) (fun L H4 i v dd σ' H' e4 hi rv hp => ?_) (fun L H4 σ' H' e4 hp => ?_)
    · obtain ⟨⟨z1, z2, rfl⟩, nLd, x, al, th⟩ := hp
      rw [List.getElem?_map] at hi
      cases hpp : ss[i]? with
      | none => rw [hpp] at hi; cases hi
      | some p =>
      rw [hpp] at hi
      cases hi
      have hps : p ∈ ss := List.mem_of_getElem? hpp
      have hpk := inks hps
      have hlt : i < ss.length := (List.getElem?_eq_some_iff.mp hpp).1
      have hlt' : i < ks.length := by have : ss.length = ks.length := by rw [slen2, slen]
                                      omega
      have hpd5 := (hpd3.ex e4).exb x npd
      refine q_asgP (ev_get (E := eP) (ev_var rfl) hpd5 (evd_var rfl rv) (keyD_pk p) (mem_sortP.mpr hpk)) fun vz H5 e5 rz => ?_
      have hnm := okS_len ((Rp.names rz) _ (lst_mem (G.pne hpk)))
      refine s_thApp (k := spotOf b pl p) (p := p) (ev_var rfl) (evd_tup (eds_cons (evd_init (evd_var rfl rz)) (eds_cons (evd_txt (ev_of (evp_call (as := [.v (.str (lst (pl p))), .v (.bl b)]) (P := fun x _ => x = V.str (hold b (lst (pl p)))) (eas_v (ev_txt (evd_last (evd_var rfl rz) (G.pne hpk))) (eas_v (ev_var rfl) eas_nil)) fun H6 vs e6 ha Q' q => ?_)) ?_) eds_nil)) (by simp)) (fun H6 t6 => evd_var rfl ((rv.ex e5).tk t6)) (th.ex e5) (x.ex e5) grp_nil ?_ ?_ fun H6 al' x6 th6 => ?_
      · obtain ⟨_, _, rfl, rfl, rfl⟩ := two_args ha
        exact ⟨_, _, rfl, hnm, fun H7 e7 => q _ H7 e7 rfl⟩
      · exact okS_hold (Rp.names rz _ (lst_mem (G.pne hpk)))
      · have := gks_len b pl (ss.take i)
        rw [List.length_take] at this
        omega
      · have := grp_len b pl (ss.take i) (spotOf b pl p)
        rw [List.length_take] at this
        omega
      · refine ⟨⟨_, _, rfl⟩, nLd, x6, al', ?_⟩
        rw [take_snoc hpp, gks_snoc]
        have : grp b pl (ss.take i ++ [p]) = fput (grp b pl (ss.take i)) (spotOf b pl p) (grp b pl (ss.take i) (spotOf b pl p) ++ [p]) := by
          funext k'
          rw [grp_snoc]
          unfold fput
          split
          · rename_i e; rw [e]
          · rfl
        rw [this]
        exact th6
    · obtain ⟨⟨z1, z2, rfl⟩, nLd, x, al, th⟩ := hp
      rw [List.length_map, List.take_length] at th
      have hdH : H d = none := fresh_back e12 hd0
      have e5 : Ex H H' := R.Ex.mutB (e13.trans e4) hdH x
      have hpd5 := (hpd3.ex e4).exb x npd
      have hgl : (gks b pl ss).length ≤ 40 := by have := gks_len b pl ss; have : ss.length = ks.length := by rw [slen2, slen]
                                                 omega
      have hgr : ∀ k, (grp b pl ss k).length ≤ 40 := fun k => by have := grp_len b pl ss k; have : ss.length = ks.length := by rw [slen2, slen]
                                                                 omega
      have hpk : ∀ k, (pairsK pl (grp b pl ss k) (grp b pl ss k).length).length ≤ 1600 := fun k => Nat.le_trans (pairs_len _ _ _) (Nat.mul_le_mul (hgr k) (hgr k))
      refine q_asgP (evn_lst eds_nil) fun vf H6 e6 ⟨F, evf, hF0, hF⟩ => ?_
      subst evf
      have th6 := th.ex e6
      have hpd6 := hpd5.ex e6
      obtain ⟨o, ho⟩ := th6.ky
      have nFd : d ≠ F := fun z => by
        obtain ⟨o', ho'⟩ := th.ky
        rw [← z, ho'.1] at hF0
        cases hF0
      have nFp : pd ≠ F := fun z => by
        obtain ⟨o', ho'⟩ := hpd5.at
        rw [← z, ho'] at hF0
        cases hF0
      have nFa : ∀ k ∈ gks b pl ss, al k ≠ F := fun k hk z => by
        obtain ⟨ys, j1, _⟩ := (th.ls k hk).2
        rw [z, hF0] at j1
        cases j1
      refine q_forW (ev_var rfl) ho (fun i σ' H'' => (∃ z1 z2 z3 z4 z5, σ' = [some (.ref a), some (.ref W), some (.ref pd), some (.bl b), some (.ref d), z1, z2, some (.ref F), z3, z4, z5]) ∧ Ex H' H'' ∧ ExB F H6 H'' ∧ LstD H'' F ((((gks b pl ss).take i).flatMap fun k => pairsK pl (grp b pl ss k) (grp b pl ss k).length).map trD))
        (fun H7 e7 => ⟨⟨_, _, _, _, _, rfl⟩, e6.trans e7, ExB.of e7, hF.ex e7⟩) (fun i σ' H'' hp => ⟨hp.2.2.1.2, fun o ho => hp.2.2.1.1 _ _ nFd ho⟩) (fun i k σ' H'' hi hp => ?_) (fun σ' H'' hp => ?_)
      · obtain ⟨⟨z1, z2, z3, z4, z5, rfl⟩, e7, x7, hF7⟩ := hp
        have hk : k ∈ gks b pl ss := List.mem_of_getElem? hi
        have hlt : i < (gks b pl ss).length := (List.getElem?_eq_some_iff.mp hi).1
        have hL7 := (th6.ls k hk).2.exb x7 (nFa k hk)
        have hdn : ((((gks b pl ss).take i).flatMap fun k => pairsK pl (grp b pl ss k) (grp b pl ss k).length)).length ≤ 64000 := by
          refine Nat.le_trans (flat_len (n := 1600) fun k _ => hpk k) ?_
          rw [List.length_take]
          omega
        refine s_forR1 (n := ((grp b pl ss k).length : Int)) (ea_cons (ev_is (ev_lenL (evl_var rfl hL7)) (by rw [List.length_map])) ea_nil) (by have := hgr k; omega) (fun j σ' H'' => (∃ z1 z2 z4 z5, σ' = [some (.ref a), some (.ref W), some (.ref pd), some (.bl b), some (.ref d), z1, z2, some (.ref F), some (.ref (al k)), z4, z5]) ∧ Ex H' H'' ∧ ExB F H6 H'' ∧ LstD H'' F (((((gks b pl ss).take i).flatMap fun k => pairsK pl (grp b pl ss k) (grp b pl ss k).length) ++ pairsK pl (grp b pl ss k) j).map trD))
          (fun H8 e8 => ⟨⟨_, _, _, _, rfl⟩, e7.trans e8, x7.ex e8, by unfold pairsK; rw [List.range_zero, List.flatMap_nil, List.append_nil]; exact hF7.ex e8⟩) (fun j σ' H8 hj hp => ?_) (fun σ' H8 hp => ?_)
        · obtain ⟨⟨z1, z2, z4, z5, rfl⟩, e8, x8, hF8⟩ := hp
          have hj' : j < (grp b pl ss k).length := by omega
          have hL8 := (th6.ls k hk).2.exb x8 (nFa k hk)
          have hpd8 := hpd6.exb x8 nFp
          have hxj : (grp b pl ss k)[j]? = some ((grp b pl ss k).getD j []) := by rw [List.getD_eq_getElem?_getD, List.getElem?_eq_getElem hj']; rfl
          have hxs : (grp b pl ss k).getD j [] ∈ sortP ks := mem_sortP.mp (List.mem_filter.mp (List.mem_of_getElem? hxj)).1
          refine s_extD (es := ((grp b pl ss k).drop (j + 1)).map fun o => trD ((grp b pl ss k).getD j [], o, pl ((grp b pl ss k).getD j []))) hF8 (ev_var rfl) (EvN.any (evn_lcY (e := pk) (as := (grp b pl ss k).drop (j + 1)) (evl_is (EvN.any (evn_cut (evl_var rfl hL8) (eo_some (i := ((j + 1 : Nat) : Int)) (ev_op (ev_var rfl) ev_c rv_I0)) eo_none)) (by rw [cut_from, List.map_drop])) (by rw [List.length_drop]; have := hgr k; omega) _ (fun v o H9 ho e9 rv => ?_) (fun _ _ _ _ _ => g_mono_name))) ?_ fun H9 e9 hF9 => ?_
          · have hat : atI ((grp b pl ss k).map pk) (j : Int) = some (pk ((grp b pl ss k).getD j [])) := atI_nat (by rw [List.getElem?_map, hxj]; rfl)
            refine ⟨Ex.refl _, rfl, evd_tup (eds_cons (evd_ixL (evl_var rfl (hL8.ex e9)) (ev_var rfl) hat) (eds_cons (evd_var rfl rv) (eds_cons (ev_get (E := eP) (p := (grp b pl ss k).getD j []) (ev_var rfl) (hpd8.ex e9) (evd_ixL (evl_var rfl (hL8.ex e9)) (ev_var rfl) hat) (keyD_pk _) hxs) eds_nil))) (by simp)⟩
          · have h1 := pairs_len pl (grp b pl ss k) j
            have h2 := hgr k
            have h3 : j * (grp b pl ss k).length ≤ 40 * 40 := Nat.mul_le_mul (by omega) h2
            rw [List.length_map, List.length_append, List.length_map, List.length_drop]
            omega
          · refine ⟨⟨_, _, _, _, rfl⟩, R.Ex.mutB e8 hF0 e9, x8.trans e9, ?_⟩
            rw [pairs_succ, ← List.append_assoc, List.map_append, List.map_map]
            exact hF9
        · obtain ⟨⟨z1, z2, z4, z5, rfl⟩, e8, x8, hF8⟩ := hp
          refine ⟨⟨_, _, _, _, _, rfl⟩, e8, x8, ?_⟩
          rw [take_snoc hi, List.flatMap_append, List.flatMap_cons, List.flatMap_nil, List.append_nil]
          exact hF8
      · obtain ⟨⟨z1, z2, z3, z4, z5, rfl⟩, e7, x7, hF7⟩ := hp
        rw [List.take_length] at hF7
        refine s_retP (evn_sortL (evl_var rfl hF7) (sortOk_tr _) ?_) fun v H8 e8 ⟨q, ev, h0, hL⟩ => k v H8 ((e5.trans e7).trans e8) ⟨q, ev, fresh_back (e5.trans e7) h0, hL⟩
        rw [List.length_map]
        refine Nat.le_trans (flat_len (n := 1600) fun k _ => hpk k) ?_
        omega
end
end R
/-! W8: what will be: paths, goal -/
namespace R
open PySem L2 Evl
def thenF (pl : Path → Path) : Nat → Path → Path
  | 0, _ => []
  | n + 1, p => if p = [] then [] else thenF pl n (pl p).dropLast ++ [lst (pl p)]
def Cl (ks : List Path) (pl : Path → Path) : Nat → Path → Prop
  | 0, p => p = []
  | n + 1, p => p = [] ∨ (p ∈ ks ∧ pl p ≠ [] ∧ Cl ks pl n (pl p).dropLast)
theorem thenF_len (pl : Path → Path) : ∀ n p, (thenF pl n p).length ≤ n
  | 0, _ => Nat.le_refl _
  | n + 1, p => by
    unfold thenF
    split
    · exact Nat.zero_le _
    · have := thenF_len pl n (pl p).dropLast
      rw [List.length_append, List.length_singleton]
      omega
theorem cl_drawer {ks : List Path} {mk : Path → Mark} {wk : List Path} {wf : Path → Path} (G : GoodW ks mk wk wf) : ∀ n d, isDr ks mk d = true → d.length ≤ n → Cl ks (plc wk wf) n d
  | 0, d, _, hl => List.length_eq_zero_iff.mp (Nat.le_zero.mp hl)
  | n + 1, d, h, hl => by
    rcases isDr_or h with e | ⟨h1, h2⟩
    · exact .inl e
    · refine .inr ⟨h1, G.pne h1, ?_⟩
      have e : (plc wk wf d).dropLast = d.dropLast := by
        unfold plc
        split
        · rename_i hw; exact G.fix d hw h2
        · rfl
      rw [e]
      exact cl_drawer G n _ (G.kdr d h1) (by rw [List.length_dropLast]; omega)
theorem GoodW.pdr {ks : List Path} {mk : Path → Mark} {wk : List Path} {wf : Path → Path} (G : GoodW ks mk wk wf) {p : Path} (h : p ∈ ks) : isDr ks mk (plc wk wf p).dropLast = true := by
  unfold plc
  split
  · rename_i hw; exact G.dr p hw
  · exact G.kdr p h
theorem GoodW.cl {ks : List Path} {mk : Path → Mark} {wk : List Path} {wf : Path → Path} (G : GoodW ks mk wk wf) {p : Path} (h : p ∈ ks) : Cl ks (plc wk wf) 7 p :=
  .inr ⟨h, G.pne h, cl_drawer G 6 _ (G.pdr h) (by have := G.plen h; rw [List.length_dropLast]; omega)⟩
theorem cl_mono {ks ks' : List Path} {pl : Path → Path} (h : ∀ p ∈ ks, p ∈ ks') : ∀ {n p}, Cl ks pl n p → Cl ks' pl n p
  | 0, _, c => c
  | _ + 1, _, .inl e => .inl e
  | _ + 1, _, .inr ⟨h1, h2, h3⟩ => .inr ⟨h _ h1, h2, cl_mono h h3⟩
/-- the path of a thing when all is done -/
def thenP (wk : List Path) (wf : Path → Path) (p : Path) : Path := thenF (plc wk wf) 7 p
def spThen (w : World) (n : Nat) : Sp := fun vs H Q _ => ∃ d v ks pl p, vs = [.ref d, v] ∧ Fd eP w H d ks (fun p => pk (pl p)) ∧ Rp H v (pk p) ∧ Cl ks pl n p ∧ n ≤ 100 ∧ RetP (IsD (pk (thenF pl n p))) H Q
def spThens (w : World) (C : Addr) : Sp := fun vs H Q _ => ∃ a W b ks mk wk wf, vs = [.ref a, .ref W] ∧ HallAt w C H a b ks mk ∧ LstD H W (wD wk wf) ∧ GoodW ks mk wk wf ∧ RetP (NewFd eP w H (sortP ks) (fun p => pk (thenP wk wf p))) H Q
def goalD (ks : List Path) (mk : Path → Mark) (wk : List Path) (wf : Path → Path) : List D := (((sortP ks).map fun p => (pk (thenP wk wf p), mkk (mk p))).mergeSort leF).map fun p => pr p.1 p.2
def spGoal (w : World) (C : Addr) : Sp := fun vs H Q _ => ∃ a W b ks mk wk wf, vs = [.ref a, .ref W] ∧ HallAt w C H a b ks mk ∧ LstD H W (wD wk wf) ∧ GoodW ks mk wk wf ∧ foundM b (plc wk wf) (sortP (sortP ks)) = [] ∧
  (∀ p ∈ ks, ∀ q ∈ ks, thenP wk wf p = thenP wk wf q → p = q) ∧ RetP (NewL H (goalD ks mk wk wf)) H Q
theorem meet_nil {b : Bool} {ks wk : List Path} {wf : Path → Path} (h : foundM b (plc wk wf) (sortP (sortP ks)) = []) : meetD b wk wf ks = [] := by
  unfold meetD
  rw [h]
  unfold sortD
  simp
abbrev rSortF : List V → Hp → VK → Prop := fun vs H Q => ∃ p ps, vs = [.ref p] ∧ LstD H p (ps.map fun p => pr p.1 p.2) ∧ FstOk ps ∧ ps.length ≤ 100000 ∧
    ∀ q H', H q = none → Ex H H' → LstD H' q ((ps.mergeSort leF).map fun p => pr p.1 p.2) → Q (.ref q) H'
theorem evn_sortF {σ : L2.St} {H : Hp} {te : TE} {ps : List (D × D)} (h : EvLs te σ H (ps.map fun p => pr p.1 p.2)) (hs : FstOk ps) (hl : ps.length ≤ 100000) : EvN (tCB rSortF (tCons te tNil)) σ H ((ps.mergeSort leF).map fun p => pr p.1 p.2) := fun H0 e0 Q q =>
  h H0 e0 _ fun v H1 e1 ⟨a, ev, hL⟩ => by
    subst ev
    exact ⟨a, ps, rfl, hL, hs, hl, fun p H' hp e hL' => q _ H' (e1.trans e) ⟨p, rfl, fresh_back (e0.trans e1) hp, hL'⟩⟩
section
variable {P : Program} {w : World} {K : PySem.W.Frag} {mg : Str → Option Value} {base : Heap}
theorem ok_ask_wishes (T : Txt K mg) : FnOk P w K mg base CX0 4 T.ask_wishes.f T.ask_wishes.fd ["hall", "wishes"] (spAskW w T.CH) := by
  refine T.ask_wishes.F.ok c_ask_wishes (fun vs H Q E h => ?_) (fun cdv A outer s H vs Q E hr h => ?_)
  · obtain ⟨_, _, _, _, _, _, _, rfl, _⟩ := h
    rfl
  · obtain ⟨a, W, b, ks, mk, wk, wf, rfl, hH, hW, G, hn, k⟩ := h
    refine ⟨_, pss_cons (ps_set (i := 2) c_ask_wishes.nd rfl (Or.inl rfl) (pe_call (ok_meetings T) hr rfl T.meetings.g T.meetings.F.kp T.meetings.b .nil pass0 (pa_cons (pv 0) (pa_cons (pv 1) pa_nil))))
      (pss_cons (ps_if (pt_cmpR op_gt (pe_callB call_len_seq (by rfl) T.z_len PySem.boot_len (pa_cons (pv 2) pa_nil)) pe_int (nomark _)) pss_never pss_nil) (pss_one (ps_ret pe_bl))), ?_⟩
    refine q_asgP (evp_call (as := [.v (.ref a), .v (.ref W)]) (P := IsL (meetD b wk wf ks)) (eas_v (ev_var rfl) (eas_v (ev_var rfl) eas_nil)) fun H1 vs e1 ha Q' q => ?_) fun vp H1 e1 ⟨F, evp, hF⟩ => ?_
    · obtain ⟨_, _, rfl, rfl, rfl⟩ := two_args ha
      exact ⟨a, W, b, ks, mk, wk, wf, rfl, hH.ex e1, hW.ex e1, G, fun v H2 e2 ⟨p, h1, h0, h2⟩ => q v H2 e2 ⟨p, h1, h2⟩⟩
    subst evp
    rw [meet_nil hn] at hF
    refine q_when (b := false) (et_test (ev_is (ev_op (ev_lenL (evl_var rfl hF)) ev_c rv_I0) (by simp))) (fun h => nomatch h) fun _ H2 e2 => ?_
    exact s_ret ev_c fun H3 e3 => k _ ((e1.trans e2).trans e3)
theorem ok_path_then (T : Txt K mg) : ∀ n, FnOk P w K mg base CX0 (n + 1) T.path_then.f T.path_then.fd ["places", "path"] (spThen w n)
  | 0 => by
    refine T.path_then.F.ok c_path_then (fun vs H Q E h => ?_) (fun cdv A outer s H vs Q E hr h => ?_)
    · obtain ⟨_, _, _, _, _, rfl, _⟩ := h
      rfl
    · obtain ⟨d, v, ks, pl, p, rfl, hd, rv, hc, hn, k⟩ := h
      have e : p = [] := hc
      subst e
      refine ⟨_, pss_cons (ps_if (pt_cmpR (op_eqD hr.units) (pv 1) (pe_tup pa_nil) (nomark _)) (pss_one (ps_ret (pe_tup pa_nil))) pss_nil) pss_never, ?_⟩
      refine q_when (et_test (ev_eqP (evd_var rfl rv) evd_nilP)) (fun _ H1 e1 => ?_) (fun h => by simp at h)
      exact s_retE evd_nilP fun x H2 e2 px => k x H2 (e1.trans e2) px
  | n + 1 => by
    refine T.path_then.F.ok c_path_then (fun vs H Q E h => ?_) (fun cdv A outer s H vs Q E hr h => ?_)
    · obtain ⟨_, _, _, _, _, rfl, _⟩ := h
      rfl
    · obtain ⟨d, v, ks, pl, p, rfl, hd, rv, hc, hn, k⟩ := h
      refine ⟨_, pss_cons (ps_if (pt_cmpR (op_eqD hr.units) (pv 1) (pe_tup pa_nil) (nomark _)) (pss_one (ps_ret (pe_tup pa_nil))) pss_nil)
        (pss_cons (ps_set (i := 2) c_path_then.nd rfl (Or.inl rfl) (pe_dgetN (room9 hr) (pv 0) (pv 1)))
        (pss_one (ps_ret (pe_op op_catA (pe_call (ok_path_then T n) hr rfl T.path_then.g T.path_then.F.kp T.path_then.b .nil pass0 (pa_cons (pv 0) (pa_cons (pe_slice sl_tupA (pv 2) po_none (po_some (pe_un un_neg pe_int))) pa_nil)))
          (pe_tup (pa_cons (pe_ix ix_tup (pv 2) (pe_un un_neg pe_int) (fun _ _ => rfl)) pa_nil)))))), ?_⟩
      refine q_when (et_test (ev_eqP (evd_var rfl rv) evd_nilP)) (fun hb H1 e1 => ?_) (fun hb H1 e1 => ?_)
      · refine s_retE evd_nilP fun x H2 e2 px => k x H2 (e1.trans e2) ?_
        rw [thenF, if_pos (of_decide_eq_true hb)]
        exact px
      · have hp : p ≠ [] := of_decide_eq_false hb
        rcases hc with e | ⟨h1, h2, h3⟩
        · exact absurd e hp
        refine q_asgP (ev_get (E := eP) (p := p) (ev_var rfl) (hd.ex e1) (evd_var rfl (rv.ex e1)) (keyD_pk p) h1) fun x H2 e2 rx => ?_
        refine s_retE (evd_snoc (p := thenF pl n (pl p).dropLast) (evp_call (as := [.v (.ref d), .d (pk (pl p).dropLast)]) (P := IsD (pk (thenF pl n (pl p).dropLast))) (eas_v (ev_var rfl) (eas_d (evd_init (evd_var rfl rx)) eas_nil)) fun H3 vs e3 ha Q' q => ?_) (evd_last (evd_var rfl rx) h2) (by have := thenF_len pl n (pl p).dropLast; omega)) fun y H3 e3 py => k y H3 ((e1.trans e2).trans e3) ?_
        · obtain ⟨_, _, rfl, rfl, a2⟩ := two_args ha
          exact ⟨d, _, ks, pl, _, rfl, hd.ex ((e1.trans e2).trans e3), a2, h3, by omega, q⟩
        · rw [thenF, if_neg hp]
          exact py
theorem ok_paths_then (T : Txt K mg) : FnOk P w K mg base CX0 9 T.paths_then.f T.paths_then.fd ["hall", "wishes"] (spThens w T.CH) := by
  refine T.paths_then.F.ok c_paths_then (fun vs H Q E h => ?_) (fun cdv A outer s H vs Q E hr h => ?_)
  · obtain ⟨_, _, _, _, _, _, _, rfl, _⟩ := h
    rfl
  · obtain ⟨a, W, b, ks, mk, wk, wf, rfl, hH, hW, G, k⟩ := h
    have hr9 := room9 hr
    refine ⟨_, pss_cons (ps_set (i := 2) c_paths_then.nd rfl (Or.inl rfl) (pe_call (ok_going T) (hr.mono (by decide)) rfl T.going.g T.going.F.kp T.going.b .nil pass0 (pa_cons (pv 0) (pa_cons (pv 1) pa_nil))))
      (pss_cons (ps_set (i := 3) c_paths_then.nd rfl (Or.inl rfl) pe_dnewN)
      (pss_cons (ps_for PassesOwn.never rfl (pi_keysN (pv 2)) (pg_name (i := 4) c_paths_then.nd rfl (Or.inl rfl)) (pss_one (ps_dputN hr9 (pv 3) (pv 4) (pe_call (ok_path_then T 7) hr rfl T.path_then.g T.path_then.F.kp T.path_then.b .nil pass0 (pa_cons (pv 2) (pa_cons (pv 4) pa_nil))))))
      (pss_one (ps_ret (pv 3))))), ?_⟩
    have kfew := G.few
    have slen := sortP_len ks
    have snd := sortP_nodup hH.nodup
    refine q_asgP (evp_call (as := [.v (.ref a), .v (.ref W)]) (P := NewFd eP w H (sortP ks) (fun p => pk (plc wk wf p))) (eas_v (ev_var rfl) (eas_v (ev_var rfl) eas_nil)) fun H1 vs e1 ha Q' q => ?_) fun vp H1 e1 ⟨pd, evp, hpd0, hpd⟩ => ?_
    · obtain ⟨_, _, rfl, rfl, rfl⟩ := two_args ha
      exact ⟨a, W, b, ks, mk, wk, wf, rfl, hH.ex e1, hW.ex e1, G, fun v H2 e2 ⟨p, h1, h0, h2⟩ => q v H2 e2 ⟨p, h1, fresh_back e1 h0, h2⟩⟩
    subst evp
    refine q_newD fun fd H2 hfd e2 ⟨of, hof⟩ => ?_
    have e12 := e1.trans e2
    obtain ⟨op, hop⟩ := hpd.ex e2
    obtain ⟨gp, hgp, _⟩ := id hop
    have hfdH : H fd = none := fresh_back e1 hfd
    have npf : pd ≠ fd := fun z => by
      obtain ⟨o, ho⟩ := hpd.at
      rw [z, hfd] at ho
      cases ho
    refine q_forK (ev_var rfl) hgp (fun i σ' H' => (∃ z, σ' = [some (.ref a), some (.ref W), some (.ref pd), some (.ref fd), z]) ∧ Kp pd H2 H' ∧ Ex H H' ∧ Fd eP w H' fd ((sortP ks).take i) (fun p => pk (thenP wk wf p)))
      (fun H3 e3 => ⟨⟨_, rfl⟩, Kp.of e3, e12.trans e3, (fd_new hof).ex e3⟩) (fun i σ' H' hp => hp.2.1) (fun i v p σ' H' hi rv hp => ?_) (fun σ' H' hp => ?_)
    · obtain ⟨⟨z, rfl⟩, kp, e3, hf⟩ := hp
      have hpp : p ∈ sortP ks := List.mem_of_getElem? hi
      have hop' : FnO eP w H' pd op (sortP ks) (fun p => pk (plc wk wf p)) := hop.tk kp.1 kp.2
      refine s_putF (E := eP) (p := p) (e := pk (thenP wk wf p)) (evp_call (as := [.v (.ref pd), .d (pk p)]) (eas_v (ev_var rfl) (eas_d (evd_var rfl rv) eas_nil)) fun H4 vs e4 ha Q' q => ?_) (ev_var rfl) (evd_var rfl rv) (keyD_pk p) hf (by rw [List.length_take]; omega) fun H4 e4 hf4 => ?_
      · obtain ⟨_, _, rfl, rfl, a2⟩ := two_args ha
        exact ⟨pd, _, sortP ks, plc wk wf, p, rfl, ⟨op, hop'.ex e4⟩, a2, cl_mono (fun q hq => mem_sortP.mpr hq) (G.cl (mem_sortP.mp hpp)), by decide, q⟩
      · refine ⟨⟨_, rfl⟩, kp.exb npf e4, R.Ex.mutB e3 hfdH e4, ?_⟩
        rw [take_snoc hi, ← kins_new (nodup_take_not snd hi)]
        refine hf4.congr fun q hq => ?_
        by_cases e : q = p
        · rw [e, fput_same]
        · rw [fput_ne e]
    · obtain ⟨⟨z, rfl⟩, kp, e3, hf⟩ := hp
      rw [List.take_length] at hf
      exact s_retE (evp_ev (P := NewFd eP w H (sortP ks) (fun p => pk (thenP wk wf p))) (ev_var rfl) fun H6 e6 => ⟨fd, rfl, hfdH, hf.ex e6⟩) fun x H6 e6 px => k x H6 (e3.trans e6) px
theorem ok_goal (T : Txt K mg) : FnOk P w K mg base CX0 10 T.goal.f T.goal.fd ["hall", "wishes"] (spGoal w T.CH) := by
  refine T.goal.F.ok c_goal (fun vs H Q E h => ?_) (fun cdv A outer s H vs Q E hr h => ?_)
  · obtain ⟨_, _, _, _, _, _, _, rfl, _⟩ := h
    rfl
  · obtain ⟨a, W, b, ks, mk, wk, wf, rfl, hH, hW, G, hn, hi, k⟩ := h
    have hr9 := room9 hr
    refine ⟨_, pss_cons (ps_expr (pe_call (ok_ask_wishes T) (hr.mono (by decide)) rfl T.ask_wishes.g T.ask_wishes.F.kp T.ask_wishes.b .nil pass0 (pa_cons (pv 0) (pa_cons (pv 1) pa_nil))))
      (pss_cons (ps_set (i := 2) c_goal.nd rfl (Or.inr rfl) (pe_call (ok_paths_then T) hr rfl T.paths_then.g T.paths_then.F.kp T.paths_then.b .nil pass0 (pa_cons (pv 0) (pa_cons (pv 1) pa_nil))))
      (pss_one (ps_ret (pe_callB (call_sortedF hr9) (by rfl) T.z_sorted (by decide +kernel) (pa_cons
        (pe_lc (own := [("path", 3), ("mark", 4)]) (g := gTup K 2 (gCons (gName 3) (gCons (gName 4) gNil))) (tt := tYes) (te := tTup (tCons (tOp (rGetN w) (tVar 2) (tVar 3)) (tCons (tVar 4) tNil))) rfl c_goal.nd
          (pi_list (pe_meth0 (pv 0) T.clH T.H_rows.m (ok_rows T) (hr.mono (by decide)) T.H_rows.b .nil pass0)) (blkOk_by (N := n_goal) (sc := defScope s_goal) (by decide +kernel))
          (fun _ _ _ _ _ => pg_tup rfl (pgs_cons (pg_name (i := 3) c_goal.nd rfl (Or.inl rfl)) (pgs_cons (pg_name (i := 4) c_goal.nd rfl (Or.inl rfl)) pgs_nil))) (fun _ _ _ _ _ => pts_nil)
          (fun _ _ _ _ _ => pe_tup (pa_cons (pe_dgetN (by exact hr9) (pv 2) (pv 3)) (pa_cons (pv 4) pa_nil)))) pa_nil))))), ?_⟩
    have kfew := G.few
    have slen := sortP_len ks
    obtain ⟨dx, m, hA, hm⟩ := id hH
    refine q_drop (ev_of (evp_call (as := [.v (.ref a), .v (.ref W)]) (P := fun x _ => x = V.bl true) (eas_v (ev_var rfl) (eas_v (ev_var rfl) eas_nil)) fun H1 vs e1 ha Q' q => ?_)) fun H1 e1 => ?_
    · obtain ⟨_, _, rfl, rfl, rfl⟩ := two_args ha
      exact ⟨a, W, b, ks, mk, wk, wf, rfl, hH.ex e1, hW.ex e1, G, hn, fun H2 e2 => q _ H2 e2 rfl⟩
    refine q_asgP (evp_call (as := [.v (.ref a), .v (.ref W)]) (P := NewFd eP w H (sortP ks) (fun p => pk (thenP wk wf p))) (eas_v (ev_var rfl) (eas_v (ev_var rfl) eas_nil)) fun H2 vs e2 ha Q' q => ?_) fun vp H2 e2 ⟨pd, evp, hpd0, hpd⟩ => ?_
    · obtain ⟨_, _, rfl, rfl, rfl⟩ := two_args ha
      exact ⟨a, W, b, ks, mk, wk, wf, rfl, hH.ex (e1.trans e2), hW.ex (e1.trans e2), G, fun v H2 e3 ⟨p, h1, h0, h2⟩ => q v H2 e3 ⟨p, h1, fresh_back (e1.trans e2) h0, h2⟩⟩
    subst evp
    have e12 := e1.trans e2
    have fo : FstOk ((sortP ks).map fun p => (pk (thenP wk wf p), mkk (mk p))) := by
      refine ⟨fun d hd e he => ?_, fun p hp => ?_, fun p hp q hq e => ?_, fun p hp => ?_, fun p hp => ?_⟩
      · rw [List.map_map] at hd he
        obtain ⟨p, _, rfl⟩ := List.mem_map.mp hd
        obtain ⟨q, _, rfl⟩ := List.mem_map.mp he
        exact al_pk _ _
      · obtain ⟨z, hz, rfl⟩ := List.mem_map.mp hp
        exact ⟨_, rfl⟩
      · obtain ⟨y, hy, rfl⟩ := List.mem_map.mp hp
        obtain ⟨z, hz, rfl⟩ := List.mem_map.mp hq
        rw [hi y (mem_sortP.mp hy) z (mem_sortP.mp hz) (pk_inj e)]
      · obtain ⟨z, hz, rfl⟩ := List.mem_map.mp hp
        cases mk z with
        | none => exact .inl rfl
        | some i => exact .inr ⟨i, rfl⟩
      · obtain ⟨z, hz, rfl⟩ := List.mem_map.mp hp
        show (pk _).depth ≤ 7
        rw [dep_pk]
        decide
    refine s_retP (evn_sortF (ps := (sortP ks).map fun p => (pk (thenP wk wf p), mkk (mk p))) (evl_is (EvN.any (evn_lcY (e := fun p => pr (pk p) (mkk (mk p))) (as := sortP ks) (evp_meth (as := []) (P := IsL (rowsD (sortP ks) mk)) (ev_var rfl) (e12 _ _ hA) rfl eas_nil fun H3 vs e3 ha Q' q => ?_) (by omega) (fun p => pr (pk (thenP wk wf p)) (mkk (mk p))) (fun v p H3 hp e3 rv => ?_) (fun _ _ _ _ _ => g_mono_two))) (by rw [List.map_map]; rfl)) fo (by rw [List.length_map]; omega)) fun v H3 e3 ⟨q, ev, h0, hL⟩ => k v H3 (e12.trans e3) ⟨q, ev, fresh_back e12 h0, hL⟩
    · cases ha
      exact ⟨a, b, ks, mk, rfl, hH.ex (e12.trans e3), G.kne, by omega, fun v H4 e4 ⟨p, h1, _, h2⟩ => q v H4 e4 ⟨p, h1, h2⟩⟩
    · exact g_two rv fun x y rx ry => ⟨Ex.refl _, rfl, evd_tup (eds_cons (ev_get (E := eP) (p := p) (ev_var rfl) (hpd.ex e3) (evd_var rfl rx) (keyD_pk p) hp) (eds_cons (evd_var rfl ry) eds_nil)) (by simp)⟩
end
end R
/-! W9: who stands behind whom -/
namespace R
open PySem L2 Evl
def movers (wk : List Path) (wf : Path → Path) : List Path := wk.filter fun p => !decide (p = wf p)
def ahM (b : Bool) (ks mv : List Path) (wf : Path → Path) (p : Path) : Option Path :=
  match thereM b ks (wf p) with
  | none => none
  | some q => if q ≠ p ∧ q ∈ mv then some q else none
def goF (ah : Path → Option Path) (first : Path) : Nat → Option Path → List Path
  | 0, _ => []
  | _ + 1, none => []
  | n + 1, some q => if q = first then [] else q :: goF ah first n (ah q)
def EndsIn (mv : List Path) (ah : Path → Option Path) (first : Path) : Nat → Option Path → Prop
  | 0, c => c = none ∨ c = some first
  | _ + 1, none => True
  | n + 1, some q => q = first ∨ (q ∈ mv ∧ EndsIn mv ah first n (ah q))
structure AhOk (mv : List Path) (ah : Path → Option Path) (n : Nat) : Prop where
  few : mv.length ≤ 40
  nd : mv.Nodup
  nn : n ≤ 50
  ne : ∀ p ∈ mv, p ≠ []
  fin : ∀ p ∈ mv, EndsIn mv ah p n (ah p)
def alongF (ah : Path → Option Path) (n : Nat) (p : Path) : List Path := p :: goF ah p n (ah p)
theorem goF_len (ah : Path → Option Path) (first : Path) : ∀ n c, (goF ah first n c).length ≤ n
  | 0, _ => Nat.le_refl _
  | _ + 1, none => Nat.zero_le _
  | n + 1, some q => by
    unfold goF
    split
    · exact Nat.zero_le _
    · have := goF_len ah first n (ah q)
      rw [List.length_cons]
      omega
def firstsM (mv : List Path) (ah : Path → Option Path) : List Path := (sortP mv).filter fun p => !decide (some p ∈ mv.map ah)
def spAhead (w : World) (C : Addr) : Sp := fun vs H Q _ => ∃ a W b ks mk wk wf, vs = [.ref a, .ref W] ∧ HallAt w C H a b ks mk ∧ LstD H W (wD wk wf) ∧ GoodW ks mk wk wf ∧ RetP (NewFd eP w H (movers wk wf) (fun p => optD (ahM b ks (movers wk wf) wf p))) H Q
def spAlong (w : World) : Sp := fun vs H Q _ => ∃ d v mv ah n p, vs = [.ref d, v] ∧ Fd eP w H d mv (fun p => optD (ah p)) ∧ Rp H v (pk p) ∧ AhOk mv ah n ∧ p ∈ mv ∧ RetP (NewL H ((alongF ah n p).map pk)) H Q
def spFirsts (w : World) : Sp := fun vs H Q _ => ∃ d mv ah, vs = [.ref d] ∧ Fd eP w H d mv (fun p => optD (ah p)) ∧ mv.length ≤ 40 ∧ (∀ p ∈ mv, p ≠ []) ∧ RetP (NewL H ((firstsM mv ah).map pk)) H Q
def eO : Enc (Option Path) := ⟨optD, fun a b h => by
  cases a <;> cases b
  · rfl
  · cases h
  · cases h
  · rw [pk_inj h]⟩
theorem opt_le8 (r : Option Path) : (optD r).depth ≤ 8 := by
  cases r
  · simp [optD, NestedKey.depth]
  · exact pk_le8 _
def Bk (w : World) (H : Hp) (d : Addr) (ks : List (Option Path)) : Prop := ∃ (o : Obj) (g : Option Path → V), BctO w H d o (ks.map fun q => (eO.e q, g q))
section
variable {w : World} {H H' : Hp} {d : Addr} {ks : List (Option Path)} {σ : L2.St} {td ty tv : TE} {p : Option Path} {N : Ends}
theorem Bk.ex (e : Ex H H') (h : Bk w H d ks) : Bk w H' d ks := by
  obtain ⟨o, g, h⟩ := h
  have h1 : Bct w H d (ks.map fun q => (eO.e q, g q)) := ⟨o, h⟩
  obtain ⟨o', h2⟩ := h1.ex e
  exact ⟨o', g, h2⟩
theorem Bk.at (h : Bk w H d ks) : ∃ o, H d = some (xO d o) := by
  obtain ⟨o, g, h⟩ := h
  exact ⟨o, h.1⟩
theorem opt_ref {v : V} (h : Rp H v (optD p)) : (∃ b, v = .ref b) ∨ v = .non := by
  cases p with
  | none => cases h; exact .inr rfl
  | some p => exact .inl (key_pk h).ref
theorem s_putB {v : V} (hv : Ev tv σ H v) (ha : Ev td σ H (.ref d)) (hk : EvD ty σ H (optD p)) (hd : Bk w H d ks) (hl : ks.length < 100000) (k : ∀ H1, ExB d H H1 → Bk w H1 d (kins ks p) → N.nx σ H1) : sDPutB w td ty tv N σ H :=
  hv H (Ex.refl _) _ fun H1 e1 => ha H1 e1 _ fun H2 e2 => hk H2 (e1.trans e2) _ fun y H3 e3 py => by
    have ex := (e1.trans e2).trans e3
    obtain ⟨o, g, h1⟩ := hd.ex ex
    refine ⟨d, _, eO.e p, rfl, ⟨o, h1⟩, ⟨py, opt_ref py, opt_le8 p⟩, by rw [List.length_map]; exact hl, fun o' h' => ?_⟩
    refine k _ ((ExB.of ex).trans (xo_exb ⟨_, h1.1⟩)) ⟨o', fput g p v, ?_⟩
    rw [← put_map]
    exact h'
theorem ev_notinB {q : Path} (hk : EvD ty σ H (pk q)) (ha : Ev td σ H (.ref d)) (hd : Bk w H d ks) : Ev (tOp (rNotInB w) ty td) σ H (.bl (!decide (some q ∈ ks))) :=
  ev_of (evp_op hk (up_d _) (evp_ev (P := fun v _ => v = .ref d) ha fun _ _ => rfl) fun x y H1 e1 px py Q q' => by
    subst py
    obtain ⟨o, g, h1⟩ := hd.ex e1
    refine ⟨d, _, eO.e (some q), rfl, ⟨o, h1⟩, key_pk px, ?_⟩
    rw [val_map eO]
    refine q' _ H1 (Ex.refl _) ?_
    by_cases h : some q ∈ ks <;> simp [h])
end
section
variable {P : Program} {w : World} {K : PySem.W.Frag} {mg : Str → Option Value} {base : Heap}
theorem ok_gone_along (T : Txt K mg) : FnOk P w K mg base CX0 1 T.gone_along.f T.gone_along.fd ["ahead", "first"] (spAlong w) := by
  refine T.gone_along.F.ok c_gone_along (fun vs H Q E h => ?_) (fun cdv A outer s H vs Q E hr h => ?_)
  · obtain ⟨_, _, _, _, _, _, rfl, _⟩ := h
    rfl
  · obtain ⟨d, v, mv, ah, n, p, rfl, hd, rv, hok, hp, k⟩ := h
    have hr9 := room9 hr
    refine ⟨_, pss_cons (ps_set (i := 2) c_gone_along.nd rfl (Or.inl rfl) (pe_lst (pa_cons (pv 1) pa_nil)))
      (pss_cons (ps_set (i := 3) c_gone_along.nd rfl (Or.inl rfl) (pe_dgetN hr9 (pv 0) (pv 1)))
      (pss_cons (ps_while PassesOwn.never (PW.pt (pw_and (pt_cmp (pc_notN (pv 3))) (pw_and1 (pt_cmpR (op_neD hr.units) (pv 3) (pv 1) (nomark _)))))
        (pss_cons (ps_expr (pe_bm PySem.F.plainAttrs_list PySem.F.slot_list_append PySem.F.type_list_append mt_append (pv 2) (pa_cons (pv 3) pa_nil)))
        (pss_one (ps_set (i := 3) c_gone_along.nd rfl (Or.inl rfl) (pe_dgetN hr9 (pv 0) (pv 3))))))
      (pss_one (ps_ret (pv 2))))), ?_⟩
    refine q_asgP (evn_lst (eds_cons (evd_var rfl rv) eds_nil) (by simp)) fun vf H1 e1 ⟨F, evf, hF0, hF⟩ => ?_
    subst evf
    refine q_asgP (ev_get (E := eP) (p := p) (ev_var rfl) (hd.ex e1) (evd_var rfl (rv.ex e1)) (keyD_pk p) hp) fun vt H2 e2 rt => ?_
    have nFd : d ≠ F := fun z => by
      obtain ⟨o, ho⟩ := hd.at
      rw [z, hF0] at ho
      cases ho
    refine q_while (fun m σ' H' => ∃ x c done, σ' = [some (.ref d), some v, some (.ref F), some x] ∧ Ex H H' ∧ Rp H' x (optD c) ∧ EndsIn mv ah p m c ∧ done.length + m ≤ n + 1 ∧ done ++ goF ah p m c = alongF ah n p ∧ LstD H' F (done.map pk)) n
      ⟨vt, ah p, [p], rfl, e1.trans e2, rt, hok.fin p hp, by simp; omega, rfl, hF.ex e2⟩ (fun m σ' H' hw => ?_)
    obtain ⟨x, c, done, rfl, e3, rx, hc, hz, hdn, hL⟩ := hw
    have hnn := hok.nn
    have test : ∀ bb : Bool, bb = (!decide (c = none) && !decide (c = some p)) → EvT (tAnd (tB (tNotN (tVar 3))) (tTest (tOp (rNeD K) (tVar 3) (tVar 1)))) [some (V.ref d), some v, some (.ref F), some x] H' bb := fun bb hbb => by
      cases c with
      | none => exact et_is (et_and (b := true) (et_B (ev_notN (evd_var rfl rx))) fun hb => by simp [optD] at hb) (by rw [hbb]; simp [optD])
      | some q => exact et_is (et_and (et_B (ev_notN (evd_var rfl rx))) fun _ => et_test (ev_neP (p := q) (evd_var rfl rx) (evd_var rfl (rv.ex e3)))) (by rw [hbb]; simp [optD, pk])
    refine ⟨_, test _ rfl, fun hb H4 e4 => ?_, fun hb H4 e4 => ?_⟩
    · cases c with
      | none => simp at hb
      | some q =>
      have hqp : q ≠ p := by simpa using hb
      cases m with
      | zero =>
        rcases hc with h | h
        · cases h
        · cases h; exact absurd rfl hqp
      | succ m =>
      rcases hc with h | ⟨hq, hc'⟩
      · exact absurd h hqp
      refine ⟨_, fun _ _ h => ⟨m, Nat.lt_succ_self m, h⟩, ?_⟩
      refine q_appD (hL.ex e4) (ev_var rfl) (evd_var rfl (rx.ex e4)) (by rw [List.length_map]; omega) fun H5 e5 hL5 => ?_
      have e15 : Ex H H5 := R.Ex.mutB (e3.trans e4) hF0 e5
      refine s_asgP (ev_get (E := eP) (p := q) (ev_var rfl) (hd.ex e15) (evd_var rfl ((rx.ex e4).tk e5.2)) (keyD_pk q) hq) fun y H6 e6 ry => ?_
      refine ⟨y, ah q, done ++ [q], rfl, e15.trans e6, ry, hc', by rw [List.length_append, List.length_singleton]; omega, ?_, ?_⟩
      · rw [← hdn, goF, if_neg hqp, List.append_assoc]
        rfl
      · rw [List.map_append]
        exact hL5.ex e6
    · have hg : goF ah p m c = [] := by
        cases m with
        | zero => rfl
        | succ m =>
          cases c with
          | none => rfl
          | some q =>
            have : q = p := by simpa using hb
            rw [goF, if_pos this]
      rw [hg, List.append_nil] at hdn
      subst hdn
      exact s_retE (evp_ev (P := NewL H ((alongF ah n p).map pk)) (ev_var rfl) fun H5 e5 => ⟨F, rfl, hF0, (hL.ex e4).ex e5⟩) fun z H5 e5 pz => k z H5 ((e3.trans e4).trans e5) pz
theorem ok_firsts (T : Txt K mg) : FnOk P w K mg base CX0 1 T.firsts.f T.firsts.fd ["ahead"] (spFirsts w) := by
  refine T.firsts.F.ok c_firsts (fun vs H Q E h => ?_) (fun cdv A outer s H vs Q E hr h => ?_)
  · obtain ⟨_, _, _, rfl, _⟩ := h
    rfl
  · obtain ⟨d, mv, ah, rfl, hd, hfew, hne, k⟩ := h
    have hr9 := room9 hr
    refine ⟨_, pss_cons (ps_set (i := 1) c_firsts.nd rfl (Or.inr rfl) pe_dnewN)
      (pss_cons (ps_for PassesOwn.never rfl (pi_keysN (pv 0)) (pg_name (i := 2) c_firsts.nd rfl (Or.inl rfl)) (pss_one (ps_dputB hr9 (pv 1) (pe_dgetN hr9 (pv 0) (pv 2)) pe_bl)))
      (pss_one (ps_ret (pe_lc (own := [("path", 2)]) (g := gName 2) (tt := tTest (tOp (rNotInB w) (tVar 2) (tVar 1))) (te := tVar 2) rfl c_firsts.nd
        (pi_list (pe_callB (call_sortedN rfl hr9) (by rfl) T.z_sorted (by decide +kernel) (pa_cons (pv 0) pa_nil)))
        (blkOk_by (N := n_firsts) (sc := defScope s_firsts) (by decide +kernel)) (fun _ _ _ _ _ => pg_name (i := 2) c_firsts.nd rfl (Or.inl rfl)) (fun _ _ _ _ _ => pts_one (pt_cmpR (op_notinB (by exact hr9)) (pv 2) (pv 1) rfl)) (fun _ _ _ _ _ => pv 2))))), ?_⟩
    refine q_newD fun bd H1 hb0 e1 ⟨ob, hob⟩ => ?_
    have hd1 := hd.ex e1
    obtain ⟨o, ho⟩ := id hd1
    obtain ⟨g, hg, _⟩ := id ho
    have ndb : d ≠ bd := fun z => by
      obtain ⟨o', ho'⟩ := hd.at
      rw [z, hb0] at ho'
      cases ho'
    refine q_forK (ev_var rfl) hg (fun i σ' H' => (∃ z, σ' = [some (.ref d), some (.ref bd), z]) ∧ Kp d H1 H' ∧ Ex H H' ∧ ∃ bk, Bk w H' bd bk ∧ bk.length ≤ i ∧ ∀ c, c ∈ bk ↔ c ∈ (mv.take i).map ah)
      (fun H2 e2 => ⟨⟨_, rfl⟩, Kp.of e2, e1.trans e2, [], Bk.ex e2 ⟨ob, fun _ => .non, BctO.empty hob⟩, Nat.le_refl _, fun c => by simp⟩) (fun i σ' H' hp => hp.2.1) (fun i v p σ' H' hi rv hp => ?_) (fun σ' H' hp => ?_)
    · obtain ⟨⟨z, rfl⟩, kp, e2, bk, hbk, hbl, hmem⟩ := hp
      have hp : p ∈ mv := List.mem_of_getElem? hi
      have hlt : i < mv.length := (List.getElem?_eq_some_iff.mp hi).1
      refine s_putB (p := ah p) (ev_c (v := .bl true)) (ev_var rfl) (ev_get (E := eP) (p := p) (f := fun p => optD (ah p)) (ev_var rfl) (hd.ex e2) (evd_var rfl rv) (keyD_pk p) hp) hbk (by omega) fun H3 e3 hbk3 => ?_
      refine ⟨⟨_, rfl⟩, kp.exb ndb e3, R.Ex.mutB e2 hb0 e3, _, hbk3, Nat.le_trans (kins_len _ _) (by omega), fun c => ?_⟩
      rw [mem_kins, hmem, take_snoc hi, List.map_append, List.mem_append, List.map_cons, List.map_nil, List.mem_singleton]
      exact ⟨fun h => h.elim .inr .inl, fun h => h.elim .inr .inl⟩
    · obtain ⟨⟨z, rfl⟩, kp, e2, bk, hbk, hbl, hmem⟩ := hp
      rw [List.take_length] at hmem
      refine s_retP (evn_is (evn_lcA (e := pk) (as := sortP mv) (EvN.any (evn_sortK (ev_var rfl) (hd.ex e2).ky hne (by omega))) (by rw [sortP_len]; omega) (fun p => if some p ∈ mv.map ah then none else some (pk p)) (fun v p H3 hp e3 rv => ?_) (fun _ _ _ _ _ => g_mono_name)) ?_) fun v H3 e3 ⟨q, ev, h0, hL⟩ => k v H3 (e2.trans e3) ⟨q, ev, fresh_back e2 h0, hL⟩
      · refine ⟨Ex.refl _, rfl, _, et_test (ev_notinB (q := p) (evd_var rfl rv) (ev_var rfl) (hbk.ex e3)), fun hb => ⟨pk p, ?_, evd_var rfl rv⟩, fun hb => ?_⟩
        · have : some p ∉ mv.map ah := fun h => by
            rw [← hmem] at h
            simp [h] at hb
          rw [if_neg this]
        · have : some p ∈ mv.map ah := by
            rw [← hmem]
            simpa using hb
          rw [if_pos this]
      · unfold firstsM
        generalize sortP mv = xs
        induction xs with
        | nil => rfl
        | cons x xs ih =>
          rw [List.filterMap_cons, List.filter_cons]
          by_cases h : some x ∈ mv.map ah
          · rw [if_pos h, decide_eq_true h]
            exact ih
          · rw [if_neg h, decide_eq_false h]
            show pk x :: _ = _
            rw [ih]
            rfl
end
end R
/-! W10: lists of lists; chains and rings -/
namespace R
open PySem L2 Evl
/-! ### lists of lists of data -/
inductive RLs (a : Addr) (H : Hp) : List V → List (List D) → Prop
  | nil : RLs a H [] []
  | cons {p : Addr} {ds : List D} {xs : List V} {dss : List (List D)} : p ≠ a → LstD H p ds → RLs a H xs dss → RLs a H (.ref p :: xs) (ds :: dss)
def LL (H0 H : Hp) (a : Addr) (dss : List (List D)) : Prop := ∃ xs, H a = some (.lst xs) ∧ RLs a H xs dss ∧ ∀ q, V.ref q ∈ xs → H0 q = none
section
variable {a b : Addr} {H0 H H' : Hp} {xs ys : List V} {dss ess : List (List D)}
theorem RLs.map (k : ∀ p ds, p ≠ a → LstD H p ds → LstD H' p ds) (h : RLs a H xs dss) : RLs a H' xs dss := by
  induction h with
  | nil => exact .nil
  | cons h1 h2 _ ih => exact .cons h1 (k _ _ h1 h2) ih
theorem RLs.ex (e : Ex H H') (h : RLs a H xs dss) : RLs a H' xs dss := h.map fun _ _ _ l => l.ex e
theorem LL.ex (e : Ex H H') (h : LL H0 H a dss) : LL H0 H' a dss := let ⟨xs, h1, h2, h3⟩ := h; ⟨xs, e _ _ h1, h2.ex e, h3⟩
/-- changes of what is no list -/
theorem LL.exb (e : ExB b H H') (hb : ∀ ys, H b ≠ some (.lst ys)) (h : LL H0 H a dss) : LL H0 H' a dss := by
  obtain ⟨xs, h1, h2, h3⟩ := h
  have ne : ∀ (p : Addr) ys, H p = some (.lst ys) → p ≠ b := fun p ys hp z => hb ys (z ▸ hp)
  exact ⟨xs, e.1 _ _ (ne _ _ h1) h1, h2.map fun p ds _ l => l.exb e (ne p _ l.choose_spec.1), h3⟩
theorem RLs.length (h : RLs a H xs dss) : xs.length = dss.length := by
  induction h with
  | nil => rfl
  | cons _ _ _ ih => rw [List.length_cons, List.length_cons, ih]
theorem RLs.append (h : RLs a H xs dss) (h' : RLs a H ys ess) : RLs a H (xs ++ ys) (dss ++ ess) := by
  induction h with
  | nil => exact h'
  | cons h1 h2 _ ih => exact .cons h1 h2 ih
theorem RLs.get (h : RLs a H xs dss) : ∀ {i : Nat} {x : V}, xs[i]? = some x → ∃ p ds, x = .ref p ∧ dss[i]? = some ds ∧ LstD H p ds ∧ p ≠ a := by
  induction h with
  | nil => intro i x hx; simp at hx
  | cons h1 h2 _ ih =>
    intro i x hx
    cases i with
    | zero => cases hx; exact ⟨_, _, rfl, rfl, h2, h1⟩
    | succ i => exact ih hx
/-- appending a list to the outer one -/
theorem LL.snoc {p : Addr} {ds : List D} (h : LL H0 H a dss) (hp : LstD H p ds) (hpa : p ≠ a) (h0 : H0 p = none) : ∃ xs, H a = some (.lst xs) ∧ xs.length = dss.length ∧ ExB a H (upd H a (.lst (xs ++ [.ref p]))) ∧ LL H0 (upd H a (.lst (xs ++ [.ref p]))) a (dss ++ [ds]) := by
  obtain ⟨xs, h1, h2, h3⟩ := h
  have eb : ExB a H (upd H a (.lst (xs ++ [.ref p]))) := ExB.upd fun ys q => by rw [h1] at q; cases q
  exact ⟨xs, h1, h2.length, eb, _, upd_same, (h2.map fun q ds hq l => l.exb eb hq).append (.cons hpa (hp.exb eb hpa) .nil), fun q hq => by
    rcases List.mem_append.mp hq with h | h
    · exact h3 q h
    · rw [List.mem_singleton] at h; cases h; exact h0⟩
def NewLL (H0 : Hp) (dss : List (List D)) : V → Hp → Prop := fun v H => ∃ p, v = .ref p ∧ H0 p = none ∧ LL H0 H p dss
theorem up_ll (H0 : Hp) : Up (NewLL H0 dss) := fun _ _ _ e ⟨p, h1, h0, h2⟩ => ⟨p, h1, h0, h2.ex e⟩

theorem RLs.dp {K : PySem.W.Frag} (h : RLs a H xs dss) : DpAll K H xs (dss.map fun ds => PyData.list (NestedKey.datas ds)) := by
  induction h with
  | nil => exact .nil
  | cons h1 h2 _ ih => exact .cons h2.dp ih
theorem LL.dp {K : PySem.W.Frag} (h : LL H0 H a dss) : Dp K H (.ref a) (.list (dss.map fun ds => PyData.list (NestedKey.datas ds))) := let ⟨_, h1, h2, _⟩ := h; .lst (.inl (.inl h1)) h2.dp
theorem RLs.lays (h : RLs a H xs dss) : PyData.canLayAll0 (dss.map fun ds => PyData.list (NestedKey.datas ds)) = true := by
  induction h with
  | nil => rfl
  | cons h1 h2 _ ih =>
    obtain ⟨ys, _, h3⟩ := h2
    simp only [List.map_cons, PyData.canLayAll0, PyData.canLay0, h3.lays, ih, Bool.and_self]
end
theorem depth_lists : ∀ {dss : List (List D)} {n : Nat}, (∀ ds ∈ dss, NestedKey.depthAll ds ≤ n) → PyData.depthAll (dss.map fun ds => PyData.list (NestedKey.datas ds)) ≤ n + 1
  | [], n, _ => by simp [PyData.depthAll]
  | ds :: dss, n, h => by
    have h1 := h ds (List.mem_cons_self ..)
    have h2 := depth_lists (dss := dss) (n := n) fun x hx => h x (List.mem_cons_of_mem _ hx)
    simp only [List.map_cons, PyData.depthAll, PyData.depth, depth_datas]
    omega
theorem LL.shaped {a : Addr} {H0 H : Hp} {dss : List (List D)} (h : LL H0 H a dss) (hd : ∀ ds ∈ dss, NestedKey.depthAll ds ≤ 3) : SeqAt.shaped (.list (dss.map fun ds => PyData.list (NestedKey.datas ds))) = true := by
  obtain ⟨xs, _, h2, _⟩ := h
  unfold SeqAt.shaped
  have := depth_lists hd
  simp only [PyData.canLay0, PyData.depth, h2.lays]
  simp; omega
section
variable {K : PySem.W.Frag} {w : World} {σ : L2.St} {H0 H0' H H' : Hp} {ta tb te : TE} {N : Ends} {tz : TS} {dss : List (List D)} {tu : TS} {g : TG}
def IsLL (dss : List (List D)) : V → Hp → Prop := fun v H => ∃ H0 p, v = .ref p ∧ LL H0 H p dss
theorem up_isll : Up (IsLL dss) := fun _ _ _ e ⟨h0, p, h1, h2⟩ => ⟨h0, p, h1, h2.ex e⟩
/-- the same lists are not unlike -/
theorem ev_neLL (ha : EvP ta σ H (IsLL dss)) (hb : EvP tb σ H (IsLL dss)) (hd : ∀ ds ∈ dss, NestedKey.depthAll ds ≤ 3) : Ev (tOp (rNeD K) ta tb) σ H (.bl false) :=
  ev_of (evp_op ha up_isll hb fun x y H1 _ ⟨_, a, ex, p⟩ ⟨_, b, ey, p'⟩ Q q => by
    subst ex
    subst ey
    refine ⟨_, _, p.dp, p'.dp, p.shaped hd, p'.shaped hd, ?_⟩
    rw [SeqAt.eqv_refl _ (Bool.and_eq_true_iff.mp (p.shaped hd)).1]
    exact q _ H1 (Ex.refl _) rfl)
/-- xs.append(a list) -/
theorem s_appLL {l p : Addr} {ds : List D} (hl : LL H0 H l dss) (ha : Ev ta σ H (.ref l)) (he : Ev te σ H (.ref p)) (hp : LstD H p ds) (hne : p ≠ l) (h0 : H0 p = none) (hz : dss.length < 100000) (k : ∀ H1, ExB l H H1 → LL H0 H1 l (dss ++ [ds]) → N.nx σ H1) :
    tDrop (tBM K "list" rAppend ta (tCons te tNil)) N σ H := ha H (Ex.refl H) _ fun H1 e1 => by
  obtain ⟨xs, h1, h2, _⟩ := hl.ex e1
  refine ⟨Or.inl ⟨rfl, xs, sq_of h1⟩, he H1 e1 _ fun H2 e2 => ?_⟩
  obtain ⟨ys, j1, j2, j3, j4⟩ := LL.snoc (hl.ex (e1.trans e2)) (hp.ex (e1.trans e2)) hne h0
  exact ⟨l, ys, _, rfl, rfl, j1, sz_lt (by rw [j2]; exact hz), k _ ((ExB.of (e1.trans e2)).trans j3) j4⟩
/-- a comprehension whose items are new lists -/
theorem evn_lcL {α : Type} {tl : TE} {vs : List Nat} {as : List α} {e : α → D} (h : EvLs tl σ H (as.map e)) (hz : as.length ≤ 50000) (f : α → List D)
    (hs : ∀ v a H1, a ∈ as → Ex H H1 → Rp H1 v (e a) → g v (wipe σ vs) H1 fun σ2 H2 => Ex H1 H2 ∧ wipe σ2 vs = wipe σ vs ∧ EvN te σ2 H2 (f a))
    (hg : ∀ v σ' H' (Q Q' : L2.St → Hp → Prop), (∀ σ2 H2, Q σ2 H2 → Q' σ2 H2) → g v σ' H' Q → g v σ' H' Q') :
    EvP (tLc (iList K tl) g tYes te vs) σ H (NewLL H (as.map f)) := fun H0 e0 Q q =>
  h H0 e0 _ fun v H1 e1 ⟨a, ev, xs, h1, h2⟩ => by
    subst ev
    refine ⟨a, rfl, ⟨xs, sq_of h1⟩, fun Dl hD => lc_list (K := K) (a := a) (xs := xs) (fun i H' => Ex H1 H' ∧ i ≤ as.length ∧ LL H H' Dl ((as.take i).map f)) ⟨Ex.new hD, Nat.zero_le _, [], upd_same, .nil, fun q hq => by cases hq⟩ (fun i H' _ p => sq_of (p.1 _ _ h1)) (fun i x H' hi p => ?_) (fun H' p => ?_)⟩
    · obtain ⟨d, hd, r⟩ := h2.get hi
      obtain ⟨p1, pi, p2⟩ := p
      rw [List.getElem?_map] at hd
      cases ha : as[i]? with
      | none => rw [ha] at hd; cases hd
      | some y =>
      rw [ha] at hd
      cases hd
      have hlt : i < as.length := (List.getElem?_eq_some_iff.mp ha).1
      have et : as.take (i + 1) = as.take i ++ [y] := by rw [List.take_add_one, ha]; rfl
      refine hg _ _ _ _ _ (fun σ2 H2 hq => ?_) (hs x y H' (List.mem_of_getElem? ha) ((e0.trans e1).trans p1) (r.ex p1))
      obtain ⟨e2, hw, hE⟩ := hq
      refine ⟨hw, ?_⟩
      show te σ2 H2 _
      refine hE H2 (Ex.refl _) _ fun z H4 e4 ⟨pl, ez, hp0, hpl⟩ => ?_
      subst ez
      have p2' : LL H H4 Dl ((as.take i).map f) := p2.ex (e2.trans e4)
      have hne : pl ≠ Dl := fun z => by
        obtain ⟨ys, j1, _⟩ := p2.ex e2
        rw [z, j1] at hp0
        cases hp0
      obtain ⟨ys, j1, j2, j3, j4⟩ := LL.snoc p2' hpl hne (fresh_back (((e0.trans e1).trans p1).trans e2) hp0)
      refine ⟨ys, j1, sz_lt (by rw [j2, List.length_map, List.length_take]; omega), j3.anch ((p1.trans e2).trans e4) hD, hlt, ?_⟩
      rw [et, List.map_append]
      exact j4
    · obtain ⟨p1, _, p2⟩ := p
      rw [h2.length, List.length_map, List.take_length] at p2
      exact q _ H' (e1.trans p1) ⟨Dl, rfl, fresh_back (e0.trans e1) hD, p2⟩
/-- over a list of lists that is made for it -/
theorem s_forLL {tl : TE} (h : EvP tl σ H (NewLL H dss)) (Pv : Addr → Hp → Nat → L2.St → Hp → Prop) (h0 : ∀ a H1, Ex H H1 → LL H H1 a dss → Pv a H1 0 σ H1) (hk : ∀ a H1 i σ' H', Pv a H1 i σ' H' → ∀ p xs, H p = none → H1 p = some (.lst xs) → H' p = some (.lst xs)) (hkt : ∀ a H1 i σ' H', Pv a H1 i σ' H' → Tk H1 H')
    (hs : ∀ a H1 i p ds σ' H', Ex H H1 → dss[i]? = some ds → LstD H' p ds → H p = none → Pv a H1 i σ' H' → g (.ref p) σ' H' fun σ2 H2 => tu { N with nx := Pv a H1 (i + 1), ct := Pv a H1 (i + 1), bk := N.nx } σ2 H2) (hd : ∀ a H1 σ' H', Ex H H1 → Pv a H1 dss.length σ' H' → N.nx σ' H') : tFor (iList K tl) g tu N σ H :=
  h H (Ex.refl H) _ fun v H1 e1 ⟨a, ev, ha0, xs, h1, h2, h3⟩ => by
    subst ev
    refine ⟨a, rfl, ⟨xs, sq_of h1⟩, for_list (Pv a H1) (h0 a H1 e1 ⟨xs, h1, h2, h3⟩) (fun i σ' H' _ p => sq_of (hk a H1 i σ' H' p _ _ ha0 h1)) (fun i x σ' H' hi p => ?_) (fun σ' H' p => hd a H1 σ' H' e1 (by rw [← h2.length]; exact p))⟩
    obtain ⟨pp, ds, rfl, hds, ⟨ys, k1, k2⟩, _⟩ := h2.get hi
    exact hs a H1 i pp ds σ' H' e1 hds ⟨ys, hk a H1 i σ' H' p _ _ (h3 _ (List.mem_of_getElem? hi)) k1, k2.tk (hkt a H1 i σ' H' p)⟩ (h3 _ (List.mem_of_getElem? hi)) p
theorem q_forLL {tl : TE} (h : EvP tl σ H (NewLL H dss)) (Pv : Addr → Hp → Nat → L2.St → Hp → Prop) (h0 : ∀ a H1, Ex H H1 → LL H H1 a dss → Pv a H1 0 σ H1) (hk : ∀ a H1 i σ' H', Pv a H1 i σ' H' → ∀ p xs, H p = none → H1 p = some (.lst xs) → H' p = some (.lst xs)) (hkt : ∀ a H1 i σ' H', Pv a H1 i σ' H' → Tk H1 H')
    (hs : ∀ a H1 i p ds σ' H', Ex H H1 → dss[i]? = some ds → LstD H' p ds → H p = none → Pv a H1 i σ' H' → g (.ref p) σ' H' fun σ2 H2 => tu { N with nx := Pv a H1 (i + 1), ct := Pv a H1 (i + 1), bk := tz N } σ2 H2) (hd : ∀ a H1 σ' H', Ex H H1 → Pv a H1 dss.length σ' H' → tz N σ' H') : tSeq (tFor (iList K tl) g tu) tz N σ H :=
  s_forLL (N := { N with nx := tz N }) h Pv h0 hk hkt hs hd
end
end R
/-! W11: ahead_of, chains, rings -/
namespace R
open PySem L2 Evl
theorem q_forNn {K : PySem.W.Frag} {σ : L2.St} {H : Hp} {g : TG} {tu tz : TS} {N : Ends} {ds : List D} {tl : TE} (h : EvN tl σ H ds) (Pv : Addr → Hp → Nat → L2.St → Hp → Prop) (h0 : ∀ a H1, H a = none → Ex H H1 → LstD H1 a ds → Pv a H1 0 σ H1) (hk : ∀ a H1 i σ' H', Pv a H1 i σ' H' → Tk H1 H' ∧ ∀ o, H1 a = some o → H' a = some o)
    (hs : ∀ a H1 i v d σ' H', Ex H H1 → ds[i]? = some d → Rp H' v d → Pv a H1 i σ' H' → g v σ' H' fun σ2 H2 => tu { N with nx := Pv a H1 (i + 1), ct := Pv a H1 (i + 1), bk := tz N } σ2 H2) (hd : ∀ a H1 σ' H', Ex H H1 → Pv a H1 ds.length σ' H' → tz N σ' H') : tSeq (tFor (iList K tl) g tu) tz N σ H :=
  h H (Ex.refl H) _ fun v H1 e1 ⟨a, ev, ha, xs, h1, h2⟩ => by
    subst ev
    refine ⟨a, rfl, ⟨xs, sq_of h1⟩, for_list (Pv a H1) (h0 a H1 ha e1 ⟨xs, h1, h2⟩) (fun i σ' H' _ p => sq_of ((hk a H1 i σ' H' p).2 _ h1)) (fun i x σ' H' hi p => ?_) (fun σ' H' p => hd a H1 σ' H' e1 (by rw [← h2.length]; exact p))⟩
    obtain ⟨d, hd', r⟩ := h2.get hi
    exact hs a H1 i x d σ' H' e1 hd' (r.tk (hk a H1 i σ' H' p).1) p
def ringsF (ah : Path → Option Path) (n : Nat) : List Path → List Path → List (List Path)
  | [], _ => []
  | p :: ps, seen => if p ∈ seen then ringsF ah n ps seen else alongF ah n p :: ringsF ah n ps (seen ++ alongF ah n p)
def ringsM (mv : List Path) (ah : Path → Option Path) (n : Nat) : List (List Path) := ringsF ah n (sortP mv) ((firstsM mv ah).flatMap (alongF ah n))
def chainsM (mv : List Path) (ah : Path → Option Path) (n : Nat) : List (List Path) := (firstsM mv ah).map (alongF ah n)
def llD (xss : List (List Path)) : List (List D) := xss.map fun xs => xs.map pk
theorem go_mem {mv : List Path} {ah : Path → Option Path} {first : Path} : ∀ {n c}, EndsIn mv ah first n c → ∀ q ∈ goF ah first n c, q ∈ mv
  | 0, _, _, q, hq => by cases hq
  | _ + 1, none, _, q, hq => by cases hq
  | n + 1, some p, h, q, hq => by
    unfold goF at hq
    split at hq
    · cases hq
    · rename_i hne
      rcases h with h | ⟨h1, h2⟩
      · exact absurd h hne
      · rcases List.mem_cons.mp hq with e | e
        · rw [e]; exact h1
        · exact go_mem h2 q e
theorem AhOk.mem {mv : List Path} {ah : Path → Option Path} {n : Nat} (h : AhOk mv ah n) {p : Path} (hp : p ∈ mv) : ∀ q ∈ alongF ah n p, q ∈ mv := fun q hq => by
  rcases List.mem_cons.mp hq with e | e
  · rw [e]; exact hp
  · exact go_mem (h.fin p hp) q e
theorem firsts_mem {mv : List Path} {ah : Path → Option Path} {p : Path} (h : p ∈ firstsM mv ah) : p ∈ mv := mem_sortP.mp (List.mem_filter.mp h).1
theorem firsts_len (mv : List Path) (ah : Path → Option Path) : (firstsM mv ah).length ≤ mv.length := by
  unfold firstsM
  exact Nat.le_trans (List.length_filter_le ..) (Nat.le_of_eq (sortP_len mv))
def ahW (b : Bool) (ks wk : List Path) (wf : Path → Path) : Path → Option Path := ahM b ks (movers wk wf) wf
def spRings (w : World) (C : Addr) (out : List Path → (Path → Option Path) → Nat → List (List Path)) : Sp := fun vs H Q _ => ∃ a W b ks mk wk wf n, vs = [.ref a, .ref W] ∧ HallAt w C H a b ks mk ∧ LstD H W (wD wk wf) ∧ GoodW ks mk wk wf ∧ foundM b (plc wk wf) (sortP (sortP ks)) = [] ∧
  AhOk (movers wk wf) (ahW b ks wk wf) n ∧ RetP (NewLL H (llD (out (movers wk wf) (ahW b ks wk wf) n))) H Q
theorem movers_sub {wk : List Path} {wf : Path → Path} {p : Path} (h : p ∈ movers wk wf) : p ∈ wk ∧ p ≠ wf p := by
  have := List.mem_filter.mp h
  exact ⟨this.1, by simpa using this.2⟩
section
variable {P : Program} {w : World} {K : PySem.W.Frag} {mg : Str → Option Value} {base : Heap}
theorem ok_ahead_of (T : Txt K mg) : FnOk P w K mg base CX0 3 T.ahead_of.f T.ahead_of.fd ["hall", "wishes"] (spAhead w T.CH) := by
  refine T.ahead_of.F.ok c_ahead_of (fun vs H Q E h => ?_) (fun cdv A outer s H vs Q E hr h => ?_)
  · obtain ⟨_, _, _, _, _, _, _, rfl, _⟩ := h
    rfl
  · obtain ⟨a, W, b, ks, mk, wk, wf, rfl, hH, hW, G, k⟩ := h
    have hr9 := room9 hr
    refine ⟨_, pss_cons (ps_setLc (i := 4) (own := [("path", 2), ("place", 3)]) (g := gTup K 2 (gCons (gName 2) (gCons (gName 3) gNil))) (tt := tTest (tOp (rNeD K) (tVar 2) (tVar 3))) (te := tTup (tCons (tVar 2) (tCons (tVar 3) tNil))) rfl c_ahead_of.nd rfl rfl (sw_true rfl rfl rfl (by decide +kernel))
        (pi_list (pv 1)) (blkOk_by (N := n_ahead_of) (sc := defScope s_ahead_of) (by decide +kernel)) (fun _ _ _ _ _ => pg_tup rfl (pgs_cons (pg_name (i := 2) c_ahead_of.nd rfl (Or.inl rfl)) (pgs_cons (pg_name (i := 3) c_ahead_of.nd rfl (Or.inl rfl)) pgs_nil)))
        (fun _ _ _ _ _ => pts_one (pt_cmpR (op_neD (by exact hr.units)) (pv 2) (pv 3) (nomark _))) (fun _ _ _ _ _ => pe_tup (pa_cons (pv 2) (pa_cons (pv 3) pa_nil))))
      (pss_cons (ps_set (i := 5) c_ahead_of.nd rfl (Or.inl rfl) (pe_callTy (call_dictPN rfl hr9) (by rfl) T.z_dict (by decide +kernel) (pa_cons (pv 4) pa_nil)))
      (pss_cons (ps_set (i := 6) c_ahead_of.nd rfl (Or.inl rfl) pe_dnewN)
      (pss_cons (ps_for PassesOwn.never rfl (pi_list (pv 4)) (pg_tup rfl (pgs_cons (pg_name (i := 2) c_ahead_of.nd rfl (Or.inl rfl)) (pgs_cons (pg_name (i := 3) c_ahead_of.nd rfl (Or.inl rfl)) pgs_nil)))
        (pss_cons (ps_set (i := 7) c_ahead_of.nd rfl (Or.inl rfl) (pe_meth (pv 0) T.clH T.H_there.m (ok_there T) hr T.H_there.b .nil pass0 (pa_cons (pv 3) pa_nil)))
        (pss_cons (ps_dputN hr9 (pv 6) (pv 2) pe_non)
        (pss_one (ps_if (PW.pt (pw_and (pt_cmp (pc_notN (pv 7))) (pw_and (pt_cmpR (op_neD hr.units) (pv 7) (pv 2) (nomark _)) (pw_and1 (pt_cmpR (op_inN hr9) (pv 7) (pv 5) rfl)))))
          (pss_one (ps_dputN hr9 (pv 6) (pv 2) (pv 7))) pss_nil)))))
      (pss_one (ps_ret (pv 6)))))), ?_⟩
    have wfew := G.wfew
    have mfew : (movers wk wf).length ≤ 40 := Nat.le_trans (List.length_filter_le ..) wfew
    have mnd : (movers wk wf).Nodup := G.one.filter _
    obtain ⟨dx, m, hA, hm⟩ := id hH
    refine q_asgP (evn_is (evn_lcA (e := fun p => pr (pk p) (pk (wf p))) (as := wk) (evl_var rfl hW) (by omega) (fun p => if p = wf p then none else some (pr (pk p) (pk (wf p)))) (fun v p H1 hp e1 rv => ?_) (fun _ _ _ _ _ => g_mono_two)) (es := (movers wk wf).map fun p => pr (pk p) (pk (wf p))) ?_) fun vm H1 e1 ⟨M, evm, hM0, hM⟩ => ?_
    · refine g_two rv fun x y rx ry => ⟨Ex.refl _, rfl, _, et_test (ev_neP (p := p) (q := wf p) (evd_var rfl rx) (evd_var rfl ry)), fun hb => ⟨_, ?_, evd_tup (eds_cons (evd_var rfl rx) (eds_cons (evd_var rfl ry) eds_nil)) (by simp)⟩, fun hb => ?_⟩
      · rw [if_neg (by simpa using hb)]
        rfl
      · rw [if_pos (by simpa using hb)]
    · unfold movers
      clear hW G mnd wfew mfew k
      induction wk with
      | nil => rfl
      | cons x xs ih =>
        rw [List.filterMap_cons, List.filter_cons]
        by_cases h : x = wf x
        · rw [if_pos h, decide_eq_true h]
          exact ih
        · rw [if_neg h, decide_eq_false h]
          show pr (pk x) (pk (wf x)) :: _ = _
          rw [ih]
          rfl
    subst evm
    refine q_asgP (evp_dictF (E := eP) (w := w) (ks := movers wk wf) (f := fun p => pk (wf p)) (evl_var rfl hM) mnd (fun q _ => keyD_pk q) (by omega)) fun vp H2 e2 ⟨pd, evp, hp0, hpd⟩ => ?_
    subst evp
    refine q_newD fun ad H3 ha0 e3 ⟨oa, hoa⟩ => ?_
    have e13 := (e1.trans e2).trans e3
    have haH : H ad = none := fresh_back (e1.trans e2) ha0
    have npa : pd ≠ ad := fun z => by
      obtain ⟨o, ho⟩ := hpd.at
      rw [z, ha0] at ho
      cases ho
    have nMa : M ≠ ad := fun z => by
      obtain ⟨o, ho⟩ := (hM.ex e2).some
      rw [z, ha0] at ho
      cases ho
    refine q_forD (ev_var rfl) (hM.ex (e2.trans e3)) (fun i σ' H' => (∃ z1 z2 z3, σ' = [some (.ref a), some (.ref W), z1, z2, some (.ref M), some (.ref pd), some (.ref ad), z3]) ∧ Kp M H3 H' ∧ Ex H H' ∧ Fd eP w H' pd (movers wk wf) (fun p => pk (wf p)) ∧ Fd eP w H' ad ((movers wk wf).take i) (fun p => optD (ahW b ks wk wf p)))
      (fun H4 e4 => ⟨⟨_, _, _, rfl⟩, Kp.of e4, e13.trans e4, hpd.ex (e3.trans e4), (fd_new hoa).ex e4⟩) (fun i σ' H' hp => hp.2.1) (fun i v d σ' H' hi rv hp => ?_) (fun σ' H' hp => ?_)
    · obtain ⟨⟨z1, z2, z3, rfl⟩, kp, e4, hpd4, had⟩ := hp
      rw [List.getElem?_map] at hi
      cases hpp : (movers wk wf)[i]? with
      | none => rw [hpp] at hi; cases hi
      | some p =>
      rw [hpp] at hi
      cases hi
      have hpm : p ∈ movers wk wf := List.mem_of_getElem? hpp
      have hpw := (movers_sub hpm).1
      have hlt : i < (movers wk wf).length := (List.getElem?_eq_some_iff.mp hpp).1
      have hpt := nodup_take_not mnd hpp
      refine g_two rv fun x y rx ry => ?_
      refine q_asgP (evp_meth (as := [.d (pk (wf p))]) (P := IsD (optD (thereM b ks (wf p)))) (ev_var rfl) (e4 _ _ hA) rfl (eas_d (evd_var rfl ry) eas_nil) fun H5 vs e5 ha Q' q => ?_) fun th H5 e5 rt => ?_
      · obtain ⟨_, rfl, a1⟩ := one_arg ha
        exact ⟨a, _, b, ks, mk, wf p, rfl, hH.ex (e4.trans e5), a1, G.ne p hpw, G.kne, q⟩
      refine q_putF (E := eP) (p := p) (e := optD none) evd_non (ev_var rfl) (evd_var rfl (rx.ex e5)) (keyD_pk p) (had.ex e5) (by rw [List.length_take]; omega) fun H6 e6 had6 => ?_
      have e46 : Ex H H6 := R.Ex.mutB (e4.trans e5) haH e6
      have rx6 := (rx.ex e5).tk e6.2
      have rt6 := Rp.tk e6.2 rt
      have hpd6 := (hpd4.ex e5).exb e6 npa
      have step : ∀ (r : Option Path) H7, Fd eP w H7 ad (kins ((movers wk wf).take i) p) (fput (fun p => optD (ahW b ks wk wf p)) p (optD r)) → r = ahW b ks wk wf p → Fd eP w H7 ad ((movers wk wf).take (i + 1)) (fun p => optD (ahW b ks wk wf p)) := fun r H7 h e => by
        rw [take_snoc hpp, ← kins_new hpt]
        refine h.congr fun q hq => ?_
        by_cases eq : q = p
        · rw [eq, fput_same, e]
        · rw [fput_ne eq]
      have test : ∀ bb : Bool, bb = decide (ahW b ks wk wf p ≠ none) → EvT (tAnd (tB (tNotN (tVar 7))) (tAnd (tTest (tOp (rNeD K) (tVar 7) (tVar 2))) (tTest (tOp (rInN w false) (tVar 7) (tVar 5))))) [some (V.ref a), some (.ref W), some x, some y, some (.ref M), some (.ref pd), some (.ref ad), some th] H6 bb := fun bb hbb => by
        subst hbb
        unfold ahW ahM
        cases hth : thereM b ks (wf p) with
        | none =>
          rw [hth] at rt6
          exact et_is (et_and (b := true) (et_B (ev_notN (evd_var rfl rt6))) fun hb => by simp [optD] at hb) (by simp [optD])
        | some q =>
          rw [hth] at rt6
          exact et_is (et_and (et_B (ev_notN (evd_var rfl rt6))) fun _ => et_and (et_test (ev_neP (p := q) (evd_var rfl rt6) (evd_var rfl rx6))) fun _ => et_test (ev_in (E := eP) (p := q) (evd_var rfl rt6) (keyD_pk q) (ev_var rfl) hpd6.ky)) (by by_cases h1 : q = p <;> by_cases h2 : q ∈ movers wk wf <;> simp [optD, pk, h1, h2])
      refine s_when (test _ rfl) (fun hb H7 e7 => ?_) (fun hb H7 e7 => ?_)
      · have hne : ahW b ks wk wf p ≠ none := of_decide_eq_true hb
        obtain ⟨q, hth, haq⟩ : ∃ q, thereM b ks (wf p) = some q ∧ ahW b ks wk wf p = some q := by
          unfold ahW ahM at hne ⊢
          cases hth : thereM b ks (wf p) with
          | none => rw [hth] at hne; exact absurd rfl hne
          | some q =>
            rw [hth] at hne
            refine ⟨q, rfl, ?_⟩
            by_cases hc : q ≠ p ∧ q ∈ movers wk wf
            · exact if_pos hc
            · exact absurd (if_neg hc) hne
        rw [hth] at rt6
        refine s_putF (E := eP) (p := p) (e := optD (some q)) (evd_var rfl (Rp.ex e7 rt6)) (ev_var rfl) (evd_var rfl (rx6.ex e7)) (keyD_pk p) (had6.ex e7) (by have := kins_len ((movers wk wf).take i) p; rw [List.length_take] at this; omega) fun H8 e8 had8 => ?_
        refine ⟨⟨_, _, _, rfl⟩, (((kp.ex e5).exb nMa e6).ex e7).exb nMa e8, R.Ex.mutB (e46.trans e7) haH e8, (hpd6.ex e7).exb e8 npa, step (some q) H8 ?_ haq.symm⟩
        rw [kins_old (mem_kins.mpr (.inl rfl))] at had8
        refine had8.congr fun z hz => ?_
        by_cases ez : z = p
        · rw [ez, fput_same, fput_same]
        · rw [fput_ne ez, fput_ne ez, fput_ne ez]
      · have hno : ahW b ks wk wf p = none := by simpa using hb
        exact ⟨⟨_, _, _, rfl⟩, ((kp.ex e5).exb nMa e6).ex e7, e46.trans e7, hpd6.ex e7, step none H7 (had6.ex e7) hno.symm⟩
    · obtain ⟨⟨z1, z2, z3, rfl⟩, kp, e4, hpd4, had⟩ := hp
      rw [List.length_map, List.take_length] at had
      exact s_retE (evp_ev (P := NewFd eP w H (movers wk wf) (fun p => optD (ahM b ks (movers wk wf) wf p))) (ev_var rfl) fun H6 e6 => ⟨ad, rfl, haH, had.ex e6⟩) fun x H6 e6 px => k x H6 (e4.trans e6) px

theorem ok_chains (T : Txt K mg) : FnOk P w K mg base CX0 5 T.chains.f T.chains.fd ["hall", "wishes"] (spRings w T.CH chainsM) := by
  refine T.chains.F.ok c_chains (fun vs H Q E h => ?_) (fun cdv A outer s H vs Q E hr h => ?_)
  · obtain ⟨_, _, _, _, _, _, _, _, rfl, _⟩ := h
    rfl
  · obtain ⟨a, W, b, ks, mk, wk, wf, n, rfl, hH, hW, G, hn, hok, k⟩ := h
    have hr1 : Room 1 _ := hr.mono (by decide)
    refine ⟨_, pss_cons (ps_expr (pe_call (ok_ask_wishes T) hr rfl T.ask_wishes.g T.ask_wishes.F.kp T.ask_wishes.b .nil pass0 (pa_cons (pv 0) (pa_cons (pv 1) pa_nil))))
      (pss_cons (ps_set (i := 2) c_chains.nd rfl (Or.inr rfl) (pe_call (ok_ahead_of T) (hr.mono (by decide)) rfl T.ahead_of.g T.ahead_of.F.kp T.ahead_of.b .nil pass0 (pa_cons (pv 0) (pa_cons (pv 1) pa_nil))))
      (pss_one (ps_ret (pe_lc (own := [("first", 3)]) (g := gName 3) (tt := tYes) (te := tCall (spAlong w) [] E0 (tCons (tVar 2) (tCons (tVar 3) tNil))) rfl c_chains.nd
        (pi_list (pe_call (ok_firsts T) hr1 rfl T.firsts.g T.firsts.F.kp T.firsts.b .nil pass0 (pa_cons (pv 2) pa_nil)))
        (blkOk_by (N := n_chains) (sc := defScope s_chains) (by decide +kernel)) (fun _ _ _ _ _ => pg_name (i := 3) c_chains.nd rfl (Or.inl rfl)) (fun _ _ _ _ _ => pts_nil)
        (fun _ _ _ _ _ => pe_call (ok_gone_along T) (by exact hr1) rfl T.gone_along.g T.gone_along.F.kp T.gone_along.b .nil pass0 (pa_cons (pv 2) (pa_cons (pv 3) pa_nil))))))), ?_⟩
    refine q_drop (ev_of (evp_call (as := [.v (.ref a), .v (.ref W)]) (P := fun x _ => x = V.bl true) (eas_v (ev_var rfl) (eas_v (ev_var rfl) eas_nil)) fun H1 vs e1 ha Q' q => ?_)) fun H1 e1 => ?_
    · obtain ⟨_, _, rfl, rfl, rfl⟩ := two_args ha
      exact ⟨a, W, b, ks, mk, wk, wf, rfl, hH.ex e1, hW.ex e1, G, hn, fun H2 e2 => q _ H2 e2 rfl⟩
    refine q_asgP (evp_call (as := [.v (.ref a), .v (.ref W)]) (P := NewFd eP w H (movers wk wf) (fun p => optD (ahW b ks wk wf p))) (eas_v (ev_var rfl) (eas_v (ev_var rfl) eas_nil)) fun H2 vs e2 ha Q' q => ?_) fun vp H2 e2 ⟨pd, evp, hpd0, hpd⟩ => ?_
    · obtain ⟨_, _, rfl, rfl, rfl⟩ := two_args ha
      exact ⟨a, W, b, ks, mk, wk, wf, rfl, hH.ex (e1.trans e2), hW.ex (e1.trans e2), G, fun v H2 e3 ⟨p, h1, h0, h2⟩ => q v H2 e3 ⟨p, h1, fresh_back (e1.trans e2) h0, h2⟩⟩
    subst evp
    have e12 := e1.trans e2
    refine s_retP (evn_lcL (e := pk) (as := firstsM (movers wk wf) (ahW b ks wk wf)) (evp_call (as := [.v (.ref pd)]) (P := IsL ((firstsM (movers wk wf) (ahW b ks wk wf)).map pk)) (eas_v (ev_var rfl) eas_nil) fun H3 vs e3 ha Q' q => ?_) (by have := firsts_len (movers wk wf) (ahW b ks wk wf); have := hok.few; omega) (fun p => (alongF (ahW b ks wk wf) n p).map pk) (fun v p H3 hp e3 rv => ?_) (fun _ _ _ _ _ => g_mono_name)) fun v H3 e3 ⟨q, ev, h0, hL⟩ => k v H3 (e12.trans e3) ⟨q, ev, fresh_back e12 h0, ?_⟩
    · obtain ⟨_, rfl, rfl⟩ := one_arg ha
      exact ⟨pd, _, _, rfl, hpd.ex e3, hok.few, hok.ne, fun v H4 e4 ⟨p, h1, _, h2⟩ => q v H4 e4 ⟨p, h1, h2⟩⟩
    · refine ⟨Ex.refl _, rfl, evp_call (as := [.v (.ref pd), .d (pk p)]) (eas_v (ev_var rfl) (eas_d (evd_var rfl rv) eas_nil)) fun H4 vs e4 ha Q' q => ?_⟩
      obtain ⟨_, _, rfl, rfl, a2⟩ := two_args ha
      exact ⟨pd, _, _, _, n, p, rfl, hpd.ex (e3.trans e4), a2, hok, firsts_mem hp, fun v H5 e5 ⟨z, h1, h0, h2⟩ => q v H5 e5 ⟨z, h1, fresh_back e4 h0, h2⟩⟩
    · have : llD (chainsM (movers wk wf) (ahW b ks wk wf) n) = (firstsM (movers wk wf) (ahW b ks wk wf)).map fun p => (alongF (ahW b ks wk wf) n p).map pk := by
        unfold llD chainsM
        rw [List.map_map]
        rfl
      rw [this]
      obtain ⟨xs, h1, h2, h3⟩ := hL
      exact ⟨xs, h1, h2, fun z hz => fresh_back e12 (h3 z hz)⟩
theorem ok_rings (T : Txt K mg) : FnOk P w K mg base CX0 5 T.rings.f T.rings.fd ["hall", "wishes"] (spRings w T.CH ringsM) := by
  refine T.rings.F.ok c_rings (fun vs H Q E h => ?_) (fun cdv A outer s H vs Q E hr h => ?_)
  · obtain ⟨_, _, _, _, _, _, _, _, rfl, _⟩ := h
    rfl
  · obtain ⟨a, W, b, ks, mk, wk, wf, n, rfl, hH, hW, G, hn, hok, k⟩ := h
    have hr1 : Room 1 _ := hr.mono (by decide)
    have hr9 := room9 hr
    refine ⟨_, pss_cons (ps_expr (pe_call (ok_ask_wishes T) hr rfl T.ask_wishes.g T.ask_wishes.F.kp T.ask_wishes.b .nil pass0 (pa_cons (pv 0) (pa_cons (pv 1) pa_nil))))
      (pss_cons (ps_set (i := 2) c_rings.nd rfl (Or.inl rfl) (pe_call (ok_ahead_of T) (hr.mono (by decide)) rfl T.ahead_of.g T.ahead_of.F.kp T.ahead_of.b .nil pass0 (pa_cons (pv 0) (pa_cons (pv 1) pa_nil))))
      (pss_cons (ps_set (i := 3) c_rings.nd rfl (Or.inl rfl) pe_dnewN)
      (pss_cons (ps_for PassesOwn.never rfl (pi_list (pe_call (ok_firsts T) hr1 rfl T.firsts.g T.firsts.F.kp T.firsts.b .nil pass0 (pa_cons (pv 2) pa_nil))) (pg_name (i := 4) c_rings.nd rfl (Or.inl rfl))
        (pss_one (ps_for PassesOwn.never rfl (pi_list (pe_call (ok_gone_along T) hr1 rfl T.gone_along.g T.gone_along.F.kp T.gone_along.b .nil pass0 (pa_cons (pv 2) (pa_cons (pv 4) pa_nil)))) (pg_name (i := 5) c_rings.nd rfl (Or.inl rfl))
          (pss_one (ps_dputN hr9 (pv 3) (pv 5) pe_bl)))))
      (pss_cons (ps_set (i := 6) c_rings.nd rfl (Or.inl rfl) (pe_lst pa_nil))
      (pss_cons (ps_for PassesOwn.never rfl (pi_list (pe_callB (call_sortedN rfl hr9) (by rfl) T.z_sorted (by decide +kernel) (pa_cons (pv 2) pa_nil))) (pg_name (i := 5) c_rings.nd rfl (Or.inl rfl))
        (pss_one (ps_if (pt_cmpR (op_notinN hr9) (pv 5) (pv 3) rfl)
          (pss_cons (ps_set (i := 7) c_rings.nd rfl (Or.inl rfl) (pe_call (ok_gone_along T) hr1 rfl T.gone_along.g T.gone_along.F.kp T.gone_along.b .nil pass0 (pa_cons (pv 2) (pa_cons (pv 5) pa_nil))))
          (pss_cons (ps_for PassesOwn.never rfl (pi_list (pv 7)) (pg_name (i := 8) c_rings.nd rfl (Or.inl rfl)) (pss_one (ps_dputN hr9 (pv 3) (pv 8) pe_bl)))
          (pss_one (ps_expr (pe_bm PySem.F.plainAttrs_list PySem.F.slot_list_append PySem.F.type_list_append mt_append (pv 6) (pa_cons (pv 7) pa_nil)))))) pss_nil)))
      (pss_one (ps_ret (pv 6)))))))), ?_⟩
    refine q_drop (ev_of (evp_call (as := [.v (.ref a), .v (.ref W)]) (P := fun x _ => x = V.bl true) (eas_v (ev_var rfl) (eas_v (ev_var rfl) eas_nil)) fun H1 vs e1 ha Q' q => ?_)) fun H1 e1 => ?_
    · obtain ⟨_, _, rfl, rfl, rfl⟩ := two_args ha
      exact ⟨a, W, b, ks, mk, wk, wf, rfl, hH.ex e1, hW.ex e1, G, hn, fun H2 e2 => q _ H2 e2 rfl⟩
    let mv := movers wk wf
    let ah := ahW b ks wk wf
    refine q_asgP (evp_call (as := [.v (.ref a), .v (.ref W)]) (P := NewFd eP w H mv (fun p => optD (ah p))) (eas_v (ev_var rfl) (eas_v (ev_var rfl) eas_nil)) fun H2 vs e2 ha Q' q => ?_) fun vp H2 e2 ⟨pd, evp, hpd0, hpd⟩ => ?_
    · obtain ⟨_, _, rfl, rfl, rfl⟩ := two_args ha
      exact ⟨a, W, b, ks, mk, wk, wf, rfl, hH.ex (e1.trans e2), hW.ex (e1.trans e2), G, fun v H2 e3 ⟨p, h1, h0, h2⟩ => q v H2 e3 ⟨p, h1, fresh_back (e1.trans e2) h0, h2⟩⟩
    subst evp
    have e12 := e1.trans e2
    refine q_newD fun sd H3 hs0 e3 ⟨os, hos⟩ => ?_
    have e13 := e12.trans e3
    have hsH : H sd = none := fresh_back e12 hs0
    have npd : pd ≠ sd := fun z => by
      obtain ⟨o, ho⟩ := hpd.at
      rw [z, hs0] at ho
      cases ho
    have mfew : mv.length ≤ 40 := hok.few
    have sfew : ∀ {H' : Hp} {ss : List Path}, Ky eP w H' sd ss → (∀ q ∈ ss, q ∈ mv) → ss.length ≤ 40 := fun h hs => Nat.le_trans (nodup_few h.nodup hs) mfew
    refine q_forN (ds := (firstsM mv ah).map pk) (evp_call (as := [.v (.ref pd)]) (P := IsL ((firstsM mv ah).map pk)) (eas_v (ev_var rfl) eas_nil) fun H4 vs e4 ha Q' q => ?_)
      (fun L H4 i σ' H' => (∃ z1 z2, σ' = [some (.ref a), some (.ref W), some (.ref pd), some (.ref sd), z1, z2, none, none, none]) ∧ L ≠ sd ∧ ExB sd H4 H' ∧ ∃ ss, Ky eP w H' sd ss ∧ (∀ q ∈ ss, q ∈ mv) ∧ ∀ q, q ∈ ss ↔ q ∈ ((firstsM mv ah).take i).flatMap (alongF ah n))
      (fun L H4 e4 hL => ⟨⟨_, _, rfl⟩, fun z => lst_no (z ▸ hL) (e4 _ _ hos.1), ExB.refl _ _, [], (ky_new hos).ex e4, (fun q hq => by cases hq), fun q => by simp⟩)
      (fun L H4 i σ' H' hp => ⟨hp.2.2.1.2, fun o ho => hp.2.2.1.1 _ _ hp.2.1 ho⟩) (fun L H4 i v dd σ' H' e4 hi rv hp => ?_) (fun L H4 σ' H' e4 hp => ?_)
    · obtain ⟨_, rfl, rfl⟩ := one_arg ha
      exact ⟨pd, _, _, rfl, hpd.ex (e3.trans e4), hok.few, hok.ne, fun v H5 e5 ⟨p, h1, _, h2⟩ => q v H5 e5 ⟨p, h1, h2⟩⟩
    · obtain ⟨⟨z1, z2, rfl⟩, nLs, x, ss, hss, hsub, hmem⟩ := hp
      rw [List.getElem?_map] at hi
      cases hpp : (firstsM mv ah)[i]? with
      | none => rw [hpp] at hi; cases hi
      | some p =>
      rw [hpp] at hi
      cases hi
      have hpm : p ∈ mv := firsts_mem (List.mem_of_getElem? hpp)
      have hpd5 : Fd eP w H' pd mv (fun p => optD (ah p)) := ((hpd.ex e3).ex e4).exb x npd
      refine s_forN (ds := (alongF ah n p).map pk) (evp_call (as := [.v (.ref pd), .d (pk p)]) (P := IsL ((alongF ah n p).map pk)) (eas_v (ev_var rfl) (eas_d (evd_var rfl rv) eas_nil)) fun H5 vs e5 ha Q' q => ?_)
        (fun L2 H5 j σ' H'' => (∃ z2, σ' = [some (.ref a), some (.ref W), some (.ref pd), some (.ref sd), some v, z2, none, none, none]) ∧ L2 ≠ sd ∧ ExB sd H5 H'' ∧ ExB sd H4 H'' ∧ ∃ ss', Ky eP w H'' sd ss' ∧ (∀ q ∈ ss', q ∈ mv) ∧ ∀ q, q ∈ ss' ↔ q ∈ ss ∨ q ∈ (alongF ah n p).take j)
        (fun L2 H5 e5 hL => ⟨⟨_, rfl⟩, fun z => lst_no (z ▸ hL) (e5 _ _ hss.at.choose_spec), ExB.refl _ _, x.ex e5, ss, hss.ex e5, hsub, fun q => by simp⟩)
        (fun L2 H5 j σ' H'' hp => ⟨hp.2.2.1.2, fun o ho => hp.2.2.1.1 _ _ hp.2.1 ho⟩) (fun L2 H5 j v2 dd σ' H'' e5 hj rv2 hp => ?_) (fun L2 H5 σ' H'' e5 hp => ?_)
      · obtain ⟨_, _, rfl, rfl, a2⟩ := two_args ha
        exact ⟨pd, _, _, _, n, p, rfl, hpd5.ex e5, a2, hok, hpm, fun v H6 e6 ⟨z, h1, _, h2⟩ => q v H6 e6 ⟨z, h1, h2⟩⟩
      · obtain ⟨⟨z2, rfl⟩, nL2, x5, x4, ss', hss', hsub', hmem'⟩ := hp
        rw [List.getElem?_map] at hj
        cases hqq : (alongF ah n p)[j]? with
        | none => rw [hqq] at hj; cases hj
        | some q0 =>
        rw [hqq] at hj
        cases hj
        have hq0 : q0 ∈ mv := hok.mem hpm q0 (List.mem_of_getElem? hqq)
        refine s_putK (E := eP) (p := q0) (ev_c (v := .bl true)) (ev_var rfl) (evd_var rfl rv2) (keyD_pk q0) hss' (by have := sfew hss' hsub'; omega) fun H6 e6 hss6 => ?_
        refine ⟨⟨_, rfl⟩, nL2, x5.trans e6, x4.trans e6, _, hss6, fun q hq => ?_, fun q => ?_⟩
        · rcases mem_kins.mp hq with h | h
          · rw [h]; exact hq0
          · exact hsub' q h
        · rw [mem_kins, hmem', take_snoc hqq, List.mem_append, List.mem_singleton]
          constructor
          · rintro (h | h | h)
            · exact .inr (.inr h)
            · exact .inl h
            · exact .inr (.inl h)
          · rintro (h | h | h)
            · exact .inr (.inl h)
            · exact .inr (.inr h)
            · exact .inl h
      · obtain ⟨⟨z2, rfl⟩, nL2, x5, x4, ss', hss', hsub', hmem'⟩ := hp
        rw [List.length_map, List.take_length] at hmem'
        refine ⟨⟨_, _, rfl⟩, nLs, x4, ss', hss', hsub', fun q => ?_⟩
        rw [hmem', hmem, take_snoc hpp, List.flatMap_append, List.mem_append, List.flatMap_cons, List.flatMap_nil, List.append_nil]
    · obtain ⟨⟨z1, z2, rfl⟩, nLs, x, ss, hss, hsub, hmem⟩ := hp
      rw [List.length_map, List.take_length] at hmem
      have e14 : Ex H H' := R.Ex.mutB (e13.trans e4) hsH x
      have hpd5 : Fd eP w H' pd mv (fun p => optD (ah p)) := ((hpd.ex e3).ex e4).exb x npd
      refine q_asgP (evn_lst eds_nil) fun vf H5 e5 ⟨F, evf, hF0, hF⟩ => ?_
      subst evf
      have e15 := e14.trans e5
      have hFH : H F = none := fresh_back e14 hF0
      have hLF : LL H H5 F (llD []) := by
        obtain ⟨xs, h1, h2⟩ := hF
        cases h2
        exact ⟨[], h1, .nil, fun q hq => by cases hq⟩
      have nFs : F ≠ sd := fun z => by
        obtain ⟨o, ho⟩ := hss.at
        rw [← z, hF0] at ho
        cases ho
      have nFp : pd ≠ F := fun z => by
        obtain ⟨o, ho⟩ := hpd5.at
        rw [z, hF0] at ho
        cases ho
      have slen := sortP_len mv
      refine q_forNn (ds := (sortP mv).map pk) (evn_sortK (ev_var rfl) (hpd5.ex e5).ky hok.ne (by omega))
        (fun L H6 i σ' H7 => (∃ z1 z2 z3 z4, σ' = [some (.ref a), some (.ref W), some (.ref pd), some (.ref sd), z1, z2, some (.ref F), z3, z4]) ∧ L ≠ sd ∧ L ≠ F ∧ Kp L H6 H7 ∧ Ex H H7 ∧ Fd eP w H7 pd mv (fun p => optD (ah p)) ∧ ∃ ss seen done, Ky eP w H7 sd ss ∧ (∀ q ∈ ss, q ∈ mv) ∧ (∀ q, q ∈ ss ↔ q ∈ seen) ∧ LL H H7 F (llD done) ∧ done.length ≤ i ∧ done ++ ringsF ah n ((sortP mv).drop i) seen = ringsM mv ah n)
        (fun L H6 hL0 e6 hL => ⟨⟨_, _, _, _, rfl⟩, fun z => lst_no (z ▸ hL) (e6 _ _ (hss.ex e5).at.choose_spec), fun z => (by obtain ⟨xs, h1, _⟩ := hLF; rw [z, h1] at hL0; cases hL0), Kp.refl L H6, e15.trans e6, hpd5.ex (e5.trans e6), ss, _, [], hss.ex (e5.trans e6), hsub, hmem, hLF.ex e6, Nat.le_refl _, rfl⟩)
        (fun L H6 i σ' H7 hp => hp.2.2.2.1) (fun L H6 i v dd σ' H7 e6 hi rv hp => ?_) (fun L H6 σ' H7 e6 hp => ?_)
      · obtain ⟨⟨z1, z2, z3, z4, rfl⟩, nLs, nLF, kp, e7, hpd7, ss, seen, done, hss7, hsub7, hmem7, hLL, hdl, hdn⟩ := hp
        rw [List.getElem?_map] at hi
        cases hpp : (sortP mv)[i]? with
        | none => rw [hpp] at hi; cases hi
        | some p =>
        rw [hpp] at hi
        cases hi
        have hpm : p ∈ mv := mem_sortP.mp (List.mem_of_getElem? hpp)
        have hlt : i < (sortP mv).length := (List.getElem?_eq_some_iff.mp hpp).1
        have hdrop : (sortP mv).drop i = p :: (sortP mv).drop (i + 1) := by
          rw [List.drop_eq_getElem_cons hlt]
          rw [(List.getElem?_eq_some_iff.mp hpp).2]
        refine s_when (et_test (ev_notin (E := eP) (p := p) (evd_var rfl rv) (keyD_pk p) (ev_var rfl) hss7)) (fun hb H8 e8 => ?_) (fun hb H8 e8 => ?_)
        · have hns : p ∉ ss := by simpa using hb
          have hnseen : p ∉ seen := fun h => hns ((hmem7 p).mpr h)
          refine q_asgP (evp_call (as := [.v (.ref pd), .d (pk p)]) (P := NewL H8 ((alongF ah n p).map pk)) (eas_v (ev_var rfl) (eas_d (evd_var rfl (rv.ex e8)) eas_nil)) fun H9 vs e9 ha Q' q => ?_) fun vr H9 e9 ⟨Rg, evr, hR0, hR⟩ => ?_
          · obtain ⟨_, _, rfl, rfl, a2⟩ := two_args ha
            exact ⟨pd, _, _, _, n, p, rfl, hpd7.ex (e8.trans e9), a2, hok, hpm, fun v H6 e6 ⟨z, h1, h0, h2⟩ => q v H6 e6 ⟨z, h1, fresh_back e9 h0, h2⟩⟩
          subst evr
          have e89 := e8.trans e9
          have hRH : H Rg = none := fresh_back (e7.trans e8) hR0
          have hss9 := hss7.ex e89
          have nRs : Rg ≠ sd := fun z => lst_no (z ▸ hR) hss9.at.choose_spec
          have nRF : Rg ≠ F := fun z => by
            obtain ⟨xs, h1, _⟩ := hLL.ex e8
            rw [z, h1] at hR0
            cases hR0
          refine q_forD (ev_var rfl) hR (fun j σ' H10 => (∃ z4, σ' = [some (.ref a), some (.ref W), some (.ref pd), some (.ref sd), z1, some v, some (.ref F), some (.ref Rg), z4]) ∧ ExB sd H9 H10 ∧ ∃ ss', Ky eP w H10 sd ss' ∧ (∀ q ∈ ss', q ∈ mv) ∧ ∀ q, q ∈ ss' ↔ q ∈ ss ∨ q ∈ (alongF ah n p).take j)
            (fun H10 e10 => ⟨⟨_, rfl⟩, ExB.of e10, ss, hss9.ex e10, hsub7, fun q => by simp⟩) (fun j σ' H10 hp => ⟨hp.2.1.2, fun o ho => hp.2.1.1 _ _ nRs ho⟩) (fun j v2 dd σ' H10 hj rv2 hp => ?_) (fun σ' H10 hp => ?_)
          · obtain ⟨⟨z4, rfl⟩, x10, ss', hss', hsub', hmem'⟩ := hp
            rw [List.getElem?_map] at hj
            cases hqq : (alongF ah n p)[j]? with
            | none => rw [hqq] at hj; cases hj
            | some q0 =>
            rw [hqq] at hj
            cases hj
            have hq0 : q0 ∈ mv := hok.mem hpm q0 (List.mem_of_getElem? hqq)
            refine s_putK (E := eP) (p := q0) (ev_c (v := .bl true)) (ev_var rfl) (evd_var rfl rv2) (keyD_pk q0) hss' (by have := sfew hss' hsub'; omega) fun H11 e11 hss11 => ?_
            refine ⟨⟨_, rfl⟩, x10.trans e11, _, hss11, fun q hq => ?_, fun q => ?_⟩
            · rcases mem_kins.mp hq with h | h
              · rw [h]; exact hq0
              · exact hsub' q h
            · rw [mem_kins, hmem', take_snoc hqq, List.mem_append, List.mem_singleton]
              constructor
              · rintro (h | h | h)
                · exact .inr (.inr h)
                · exact .inl h
                · exact .inr (.inl h)
              · rintro (h | h | h)
                · exact .inr (.inl h)
                · exact .inr (.inr h)
                · exact .inl h
          · obtain ⟨⟨z4, rfl⟩, x10, ss', hss', hsub', hmem'⟩ := hp
            rw [List.length_map, List.take_length] at hmem'
            have hR10 := hR.exb x10 nRs
            have hLL10 := (hLL.ex e89).exb x10 fun ys z => by rw [hss9.at.choose_spec] at z; cases z
            have hpd10 := (hpd7.ex e89).exb x10 npd
            have e710 : Ex H H10 := R.Ex.mutB (e7.trans e89) hsH x10
            refine s_appLL hLL10 (ev_var rfl) (ev_var rfl) hR10 nRF hRH (by unfold llD; rw [List.length_map]; omega) fun H11 e11 hLL11 => ?_
            refine ⟨⟨_, _, _, _, rfl⟩, nLs, nLF, ((kp.ex e89).exb nLs x10).exb nLF e11, R.Ex.mutB e710 hFH e11, hpd10.exb e11 nFp, ss', seen ++ alongF ah n p, done ++ [alongF ah n p], hss'.exb e11 nFs.symm, hsub', fun q => ?_, ?_, ?_, ?_⟩
            · rw [hmem', hmem7, List.mem_append]
            · unfold llD at hLL11 ⊢
              rw [List.map_append]
              exact hLL11
            · rw [List.length_append, List.length_singleton]
              omega
            · rw [← hdn, hdrop, ringsF, if_neg hnseen, List.append_assoc]
              rfl
        · have hs : p ∈ ss := by simpa using hb
          refine ⟨⟨_, _, _, _, rfl⟩, nLs, nLF, kp.ex e8, e7.trans e8, hpd7.ex e8, ss, seen, done, hss7.ex e8, hsub7, hmem7, hLL.ex e8, by omega, ?_⟩
          rw [← hdn, hdrop, ringsF, if_pos ((hmem7 p).mp hs)]
      · obtain ⟨⟨z1, z2, z3, z4, rfl⟩, nLs, nLF, kp, e7, hpd7, ss, seen, done, hss7, hsub7, hmem7, hLL, hdl, hdn⟩ := hp
        rw [List.length_map, List.drop_length, ringsF, List.append_nil] at hdn
        subst hdn
        exact s_retE (evp_ev (P := NewLL H (llD (ringsM mv ah n))) (ev_var rfl) fun H8 e8 => ⟨F, rfl, hFH, hLL.ex e8⟩) fun x H8 e8 px => k x H8 (e7.trans e8) px
end
end R
/-! W12: the sorter: its making, path_now, go, go_home -/
namespace R
open PySem L2 Evl
def sF (b : Bool) (P S M : Addr) : List (Str × V) := [("blind", .bl b), ("places", .ref P), ("spots", .ref S), ("moves", .ref M)]
theorem sF_put (b : Bool) (P S M : Addr) : putF "moves" (.ref M) (putF "spots" (.ref S) (putF "places" (.ref P) (putF "blind" (.bl b) []))) = sF b P S M := by
  have h1 : putF "blind" (V.bl b) [] = [(("blind" : Str), V.bl b)] := rfl
  have h2 : putF "places" (V.ref P) [(("blind" : Str), V.bl b)] = [(("blind" : Str), V.bl b), ("places", .ref P)] := by
    show (if ("blind" : Str) = "places" then _ else (("blind" : Str), V.bl b) :: [(("places" : Str), V.ref P)]) = _
    rw [if_neg (by decide +kernel)]
  have h3 : putF "spots" (V.ref S) [(("blind" : Str), V.bl b), ("places", .ref P)] = [(("blind" : Str), V.bl b), ("places", .ref P), ("spots", .ref S)] := by
    show (if ("blind" : Str) = "spots" then _ else (("blind" : Str), V.bl b) :: (if ("places" : Str) = "spots" then _ else (("places" : Str), V.ref P) :: [(("spots" : Str), V.ref S)])) = _
    rw [if_neg (by decide +kernel), if_neg (by decide +kernel)]
  rw [h1, h2, h3]
  show (if ("blind" : Str) = "moves" then _ else (("blind" : Str), V.bl b) :: (if ("places" : Str) = "moves" then _ else (("places" : Str), V.ref P) :: (if ("spots" : Str) = "moves" then _ else (("spots" : Str), V.ref S) :: [(("moves" : Str), V.ref M)]))) = _
  rw [if_neg (by decide +kernel), if_neg (by decide +kernel), if_neg (by decide +kernel)]
  rfl
def jn (s : Spot) : Path := s.1 ++ [s.2]
def nowF (spf : Path → Spot) (p : Path) : Path := thenF (fun q => jn (spf q)) 7 p
def mvD (m : Path × Path) : D := pr (pk m.1) (pk m.2)
structure SortAt (w : World) (C : Addr) (H : Hp) (s P S M : Addr) (b : Bool) (wk : List Path) (wf : Path → Path) (ks : List Path) (spf : Path → Spot) (ms : List (Path × Path)) : Prop where
  it : ∃ dx, H s = some (.ins C dx (sF b P S M))
  pl : Fd eP w H P wk (fun p => pk (wf p))
  sp : Fd eP w H S ks (fun p => eS.e (spf p))
  mv : LstD H M (ms.map mvD)
  ne : P ≠ S
structure SpOk (ks : List Path) (mk : Path → Mark) (spf : Path → Spot) : Prop where
  few : ks.length ≤ 40
  kne : ∀ p ∈ ks, p ≠ []
  len : ∀ p ∈ ks, p.length ≤ 6
  kdr : ∀ p ∈ ks, isDr ks mk p.dropLast = true
  dr : ∀ p ∈ ks, isDr ks mk (spf p).1 = true
  fix : ∀ p ∈ ks, mk p = none → (spf p).1 = p.dropLast
theorem jn_drop (s : Spot) : (jn s).dropLast = s.1 := List.dropLast_concat
theorem jn_lst (s : Spot) : lst (jn s) = s.2 := lst_snoc _ _
theorem jn_ne (s : Spot) : jn s ≠ [] := by simp [jn]
theorem SpOk.cl_dr {ks : List Path} {mk : Path → Mark} {spf : Path → Spot} (G : SpOk ks mk spf) : ∀ n d, isDr ks mk d = true → d.length ≤ n → Cl ks (fun q => jn (spf q)) n d
  | 0, d, _, hl => List.length_eq_zero_iff.mp (Nat.le_zero.mp hl)
  | n + 1, d, h, hl => by
    rcases isDr_or h with e | ⟨h1, h2⟩
    · exact .inl e
    · refine .inr ⟨h1, jn_ne _, ?_⟩
      have e : (jn (spf d)).dropLast = d.dropLast := by rw [jn_drop, G.fix d h1 h2]
      rw [e]
      exact cl_dr G n _ (G.kdr d h1) (by rw [List.length_dropLast]; omega)
theorem isDr_len {ks : List Path} {mk : Path → Mark} {d : Path} (hl : ∀ p ∈ ks, p.length ≤ 6) (h : isDr ks mk d = true) : d.length ≤ 6 := by
  rcases isDr_or h with e | ⟨h1, h2⟩
  · rw [e]; exact Nat.zero_le _
  · exact hl d h1
theorem cl_le {ks : List Path} {pl : Path → Path} : ∀ {n m p}, n ≤ m → Cl ks pl n p → Cl ks pl m p
  | 0, 0, _, _, c => c
  | 0, _ + 1, _, _, c => .inl c
  | _ + 1, 0, _, h, _ => absurd h (Nat.not_succ_le_zero _)
  | _ + 1, _ + 1, _, _, .inl e => .inl e
  | _ + 1, _ + 1, _, h, .inr ⟨h1, h2, h3⟩ => .inr ⟨h1, h2, cl_le (Nat.le_of_succ_le_succ h) h3⟩
theorem SpOk.cl {ks : List Path} {mk : Path → Mark} {spf : Path → Spot} (G : SpOk ks mk spf) {p : Path} (h : p ∈ ks) : Cl ks (fun q => jn (spf q)) 7 p :=
  .inr ⟨h, jn_ne _, by rw [jn_drop]; exact G.cl_dr 6 _ (G.dr p h) (isDr_len G.len (G.dr p h))⟩
theorem SpOk.cld {ks : List Path} {mk : Path → Mark} {spf : Path → Spot} (G : SpOk ks mk spf) {d : Path} (h : isDr ks mk d = true) : Cl ks (fun q => jn (spf q)) 7 d := cl_le (by decide) (G.cl_dr 6 d h (isDr_len G.len h))
/-- all but the two that the sorter writes on is as it was -/
def ExS (S M : Addr) (H H' : Hp) : Prop := (∀ b o, b ≠ S → b ≠ M → H b = some o → H' b = some o) ∧ Tk H H'
section
variable {S M : Addr} {H H1 H2 : Hp}
theorem ExS.of (e : Ex H H1) : ExS S M H H1 := ⟨fun b o _ _ h => e b o h, Tk.of e⟩
theorem ExS.trans (x : ExS S M H H1) (y : ExS S M H1 H2) : ExS S M H H2 := ⟨fun b o h1 h2 h => y.1 b o h1 h2 (x.1 b o h1 h2 h), x.2.trans y.2⟩
theorem ExS.s (x : ExB S H H1) : ExS S M H H1 := ⟨fun b o h1 _ h => x.1 b o h1 h, x.2⟩
theorem ExS.m (x : ExB M H H1) : ExS S M H H1 := ⟨fun b o _ h2 h => x.1 b o h2 h, x.2⟩
/-- behind a heap in which neither stood -/
theorem ExS.anch {H0 : Hp} (e : Ex H0 H) (hs : H0 S = none) (hm : H0 M = none) (x : ExS S M H H1) : Ex H0 H1 := fun b o h => x.1 b o (ne_of_none h hs) (ne_of_none h hm) (e b o h)
end
theorem SortAt.ex {w : World} {C s P S M : Addr} {H H' : Hp} {b : Bool} {wk ks : List Path} {wf : Path → Path} {spf : Path → Spot} {ms : List (Path × Path)} (e : Ex H H') (h : SortAt w C H s P S M b wk wf ks spf ms) : SortAt w C H' s P S M b wk wf ks spf ms where
  it := let ⟨dx, h⟩ := h.it; ⟨dx, e _ _ h⟩
  pl := h.pl.ex e
  sp := h.sp.ex e
  mv := h.mv.ex e
  ne := h.ne
/-- a method called for what it does -/
theorem s_dropM {σ : L2.St} {H : Hp} {N : Ends} {sp : Sp} {E : XK} {ta : TA} {as : List AS} {C o dx : Addr} {fs : List (Str × V)} {m : Str} {to : TE} (ho : Ev to σ H (.ref o)) (hi : H o = some (.ins C dx fs)) (hm : fs.lookup m = none) (h : EvAs ta σ H as)
    (hs : ∀ H1 vs, Ex H H1 → AsOk H1 as vs → sp (.ref o :: vs) H1 (fun _ H2 => N.nx σ H2) E) : tDrop (tMeth C m sp [] E to ta) N σ H :=
  ho H (Ex.refl _) _ fun H2 e2 => ⟨o, dx, fs, rfl, e2 _ _ hi, hm, h H2 e2 _ fun vs H3 e3 p => by
    show sp (.ref o :: (vs ++ [])) H3 _ E
    rw [List.append_nil]
    exact hs H3 vs (e2.trans e3) p⟩
theorem q_dropM {σ : L2.St} {H : Hp} {N : Ends} {tz : TS} {sp : Sp} {E : XK} {ta : TA} {as : List AS} {C o dx : Addr} {fs : List (Str × V)} {m : Str} {to : TE} (ho : Ev to σ H (.ref o)) (hi : H o = some (.ins C dx fs)) (hm : fs.lookup m = none) (h : EvAs ta σ H as)
    (hs : ∀ H1 vs, Ex H H1 → AsOk H1 as vs → sp (.ref o :: vs) H1 (fun _ H2 => tz N σ H2) E) : tSeq (tDrop (tMeth C m sp [] E to ta)) tz N σ H :=
  s_dropM (N := { N with nx := tz N }) ho hi hm h hs
def spSi (w : World) (CS CH : Addr) : Sp := fun vs H Q _ => ∃ s a W b ks mk wk wf dx, vs = [.ref s, .ref a, .ref W] ∧ H s = some (.ins CS dx []) ∧ HallAt w CH H a b ks mk ∧ LstD H W (wD wk wf) ∧ GoodW ks mk wk wf ∧
  ∀ H' P S M, ExB s H H' → H P = none → H S = none → H M = none → SortAt w CS H' s P S M b wk wf (sortP ks) (fun p => (p.dropLast, lst p)) [] → Q .non H'
def spNow (w : World) (C : Addr) (n : Nat) : Sp := fun vs H Q _ => ∃ s v P S M b wk wf ks spf ms p, vs = [.ref s, v] ∧ SortAt w C H s P S M b wk wf ks spf ms ∧ Rp H v (pk p) ∧ Cl ks (fun q => jn (spf q)) n p ∧ n ≤ 100 ∧ RetP (IsD (pk (thenF (fun q => jn (spf q)) n p))) H Q
def goS (st : (Path → Spot) × List (Path × Path)) (p d : Path) (nm : Str) : (Path → Spot) × List (Path × Path) := (fput st.1 p (d, nm), st.2 ++ [(nowF st.1 p, nowF st.1 d ++ [nm])])
def homeS (wf : Path → Path) (st : (Path → Spot) × List (Path × Path)) (p : Path) : (Path → Spot) × List (Path × Path) := goS st p (wf p).dropLast (lst (wf p))
def spGo (w : World) (C : Addr) : Sp := fun vs H Q _ => ∃ s v u x P S M b wk wf ks mk spf ms p d nm, vs = [.ref s, v, u, x] ∧ SortAt w C H s P S M b wk wf ks spf ms ∧ SpOk ks mk spf ∧ Rp H v (pk p) ∧ Rp H u (pk d) ∧ Rp H x (.text nm) ∧ p ∈ ks ∧ isDr ks mk d = true ∧ ms.length ≤ 20000 ∧
  ∀ H', ExS S M H H' → SortAt w C H' s P S M b wk wf ks (goS (spf, ms) p d nm).1 (goS (spf, ms) p d nm).2 → Q .non H'
def spHome (w : World) (C : Addr) : Sp := fun vs H Q _ => ∃ s v P S M b wk wf ks mk spf ms p, vs = [.ref s, v] ∧ SortAt w C H s P S M b wk wf ks spf ms ∧ SpOk ks mk spf ∧ Rp H v (pk p) ∧ p ∈ ks ∧ p ∈ wk ∧ wf p ≠ [] ∧ isDr ks mk (wf p).dropLast = true ∧ ms.length ≤ 20000 ∧
  ∀ H', ExS S M H H' → SortAt w C H' s P S M b wk wf ks (homeS wf (spf, ms) p).1 (homeS wf (spf, ms) p).2 → Q .non H'
section
variable {P : Program} {w : World} {K : PySem.W.Frag} {mg : Str → Option Value} {base : Heap}
theorem ok_path_now (T : Txt K mg) : ∀ n, FnOk P w K mg base CX0 (n + 1) T.S_path_now.f T.S_path_now.fd ["self", "path"] (spNow w T.CS n)
  | 0 => by
    refine T.S_path_now.F.ok c_S_path_now (fun vs H Q E h => ?_) (fun cdv A outer s H vs Q E hr h => ?_)
    · obtain ⟨_, _, _, _, _, _, _, _, _, _, _, _, rfl, _⟩ := h
      rfl
    · obtain ⟨s, v, P, S, M, b, wk, wf, ks, spf, ms, p, rfl, hS, rv, hc, hn, k⟩ := h
      have e : p = [] := hc
      subst e
      refine ⟨_, pss_cons (ps_if (pt_cmpR (op_eqD hr.units) (pv 1) (pe_tup pa_nil) (nomark _)) (pss_one (ps_ret (pe_tup pa_nil))) pss_nil) pss_never, ?_⟩
      refine q_when (et_test (ev_eqP (evd_var rfl rv) evd_nilP)) (fun _ H1 e1 => ?_) (fun h => by simp at h)
      exact s_retE evd_nilP fun x H2 e2 px => k x H2 (e1.trans e2) px
  | n + 1 => by
    refine T.S_path_now.F.ok c_S_path_now (fun vs H Q E h => ?_) (fun cdv A outer s H vs Q E hr h => ?_)
    · obtain ⟨_, _, _, _, _, _, _, _, _, _, _, _, rfl, _⟩ := h
      rfl
    · obtain ⟨s, v, P, S, M, b, wk, wf, ks, spf, ms, p, rfl, hS, rv, hc, hn, k⟩ := h
      obtain ⟨dx, hs⟩ := hS.it
      refine ⟨_, pss_cons (ps_if (pt_cmpR (op_eqD hr.units) (pv 1) (pe_tup pa_nil) (nomark _)) (pss_one (ps_ret (pe_tup pa_nil))) pss_nil)
        (pss_cons (ps_asg (pe_dgetN (room9 hr) (pe_fld (pv 0) rfl) (pv 1)) (pg_tup rfl (pgs_cons (pg_name (i := 2) c_S_path_now.nd rfl (Or.inl rfl)) (pgs_cons (pg_name (i := 3) c_S_path_now.nd rfl (Or.inl rfl)) pgs_nil))))
        (pss_one (ps_ret (pe_op op_catA (pe_meth (pv 0) T.clS T.S_path_now.m (ok_path_now T n) hr T.S_path_now.b .nil pass0 (pa_cons (pv 2) pa_nil))
          (pe_tup (pa_cons (pv 3) pa_nil)))))), ?_⟩
      refine q_when (et_test (ev_eqP (evd_var rfl rv) evd_nilP)) (fun hb H1 e1 => ?_) (fun hb H1 e1 => ?_)
      · refine s_retE evd_nilP fun x H2 e2 px => k x H2 (e1.trans e2) ?_
        rw [thenF, if_pos (of_decide_eq_true hb)]
        exact px
      · have hp : p ≠ [] := of_decide_eq_false hb
        rcases hc with e | ⟨h1, h2, h3⟩
        · exact absurd e hp
        refine (ev_get (E := eP) (p := p) (ev_fld (ev_var rfl) (e1 _ _ hs) T.clS T.nS_spots rfl) (hS.sp.ex e1) (evd_var rfl (rv.ex e1)) (keyD_pk p) h1) _ (Ex.refl _) _ fun x H2 e2 rx => ?_
        refine g_two rx fun y z ry rz => ?_
        rw [jn_drop] at h3
        refine s_retE (evd_snoc (p := thenF (fun q => jn (spf q)) n (spf p).1) (n := (spf p).2) (evp_meth (as := [.d (pk (spf p).1)]) (P := IsD (pk (thenF (fun q => jn (spf q)) n (spf p).1))) (ev_var rfl) ((e1.trans e2) _ _ hs) rfl (eas_d (evd_var rfl ry) eas_nil) fun H3 vs e3 ha Q' q => ?_) (evd_var rfl rz) (by have := thenF_len (fun q => jn (spf q)) n (spf p).1; omega)) fun y H3 e3 py => k y H3 ((e1.trans e2).trans e3) ?_
        · obtain ⟨_, rfl, a1⟩ := one_arg ha
          exact ⟨s, _, P, S, M, b, wk, wf, ks, spf, ms, _, rfl, hS.ex ((e1.trans e2).trans e3), a1, h3, by omega, q⟩
        · rw [thenF, if_neg hp, jn_drop, jn_lst]
          exact py
theorem ok_go (T : Txt K mg) : FnOk P w K mg base CX0 9 T.S_go.f T.S_go.fd ["self", "path", "drawer", "name"] (spGo w T.CS) := by
  refine T.S_go.F.ok c_S_go (fun vs H Q E h => ?_) (fun cdv A outer s H vs Q E hr h => ?_)
  · obtain ⟨_, _, _, _, _, _, _, _, _, _, _, _, _, _, _, _, _, rfl, _⟩ := h
    rfl
  · obtain ⟨s, v, u, x, P, S, M, b, wk, wf, ks, mk, spf, ms, p, d, nm, rfl, hS, G, rv, ru, rx, hp, hd, hms, k⟩ := h
    obtain ⟨dx, hs⟩ := hS.it
    have kfew := G.few
    refine ⟨_, pss_cons (ps_expr (pe_bm PySem.F.plainAttrs_list PySem.F.slot_list_append PySem.F.type_list_append mt_append (pe_fld (pv 0) rfl) (pa_cons
        (pe_tup (pa_cons (pe_meth (pv 0) T.clS T.S_path_now.m (ok_path_now T 7) hr T.S_path_now.b .nil pass0 (pa_cons (pv 1) pa_nil))
          (pa_cons (pe_op op_catA (pe_meth (pv 0) T.clS T.S_path_now.m (ok_path_now T 7) hr T.S_path_now.b .nil pass0 (pa_cons (pv 2) pa_nil)) (pe_tup (pa_cons (pv 3) pa_nil))) pa_nil))) pa_nil)))
      (pss_one (ps_dputN (room9 hr) (pe_fld (pv 0) rfl) (pv 1) (pe_tup (pa_cons (pv 2) (pa_cons (pv 3) pa_nil))))), ?_⟩
    have now : ∀ (i : Nat) (y : V) (q : Path), ([some (V.ref s), some v, some u, some x] : L2.St)[i]? = some (some y) → Rp H y (pk q) → Cl ks (fun q => jn (spf q)) 7 q → EvD (tMeth T.CS "path_now" (spNow w T.CS 7) [] E0 (tVar 0) (tCons (tVar i) tNil)) [some (V.ref s), some v, some u, some x] H (pk (nowF spf q)) := fun i y q hy ry hc =>
      evp_meth (as := [.d (pk q)]) (ev_var rfl) hs rfl (eas_d (evd_var hy ry) eas_nil) fun H1 vs e1 ha Q' q' => by
        obtain ⟨_, rfl, a1⟩ := one_arg ha
        exact ⟨s, _, P, S, M, b, wk, wf, ks, spf, ms, _, rfl, hS.ex e1, a1, hc, by decide, q'⟩
    refine q_appD (d := mvD (nowF spf p, nowF spf d ++ [nm])) hS.mv (ev_fld (ev_var rfl) hs T.clS T.nS_moves rfl) (evd_tup (eds_cons (now 1 v p rfl rv (G.cl hp)) (eds_cons (evd_snoc (now 2 u d rfl ru (G.cld hd)) (evd_var rfl rx) (by have := thenF_len (fun q => jn (spf q)) 7 d; unfold nowF; omega)) eds_nil)) (by simp)) (by rw [List.length_map]; omega) fun H1 e1 hM1 => ?_
    have nsM : s ≠ M := fun z => by
      obtain ⟨xs, h1, _⟩ := hS.mv
      rw [← z, hs] at h1
      cases h1
    have nMS : M ≠ S := fun z => by
      obtain ⟨o, ho⟩ := hS.sp.at
      exact lst_no hS.mv (z ▸ ho)
    have nMP : M ≠ P := fun z => by
      obtain ⟨o, ho⟩ := hS.pl.at
      exact lst_no hS.mv (z ▸ ho)
    have nsS : s ≠ S := fun z => by
      obtain ⟨o, ho⟩ := hS.sp.at
      rw [← z, hs] at ho
      cases ho
    have hs1 := e1.1 _ _ nsM hs
    refine s_putF (E := eP) (p := p) (e := eS.e (d, nm)) (evd_tup (eds_cons (evd_var rfl (ru.tk e1.2)) (eds_cons (evd_var rfl (rx.tk e1.2)) eds_nil)) (by simp)) (ev_fld (ev_var rfl) hs1 T.clS T.nS_spots rfl) (evd_var rfl (rv.tk e1.2)) (keyD_pk p) (hS.sp.exb e1 nMS.symm) (by omega) fun H2 e2 hsp => ?_
    refine k _ ((ExS.m e1).trans (ExS.s e2)) ⟨⟨dx, e2.1 _ _ nsS hs1⟩, (hS.pl.exb e1 nMP.symm).exb e2 hS.ne, ?_, ?_, hS.ne⟩
    · rw [kins_old hp] at hsp
      refine hsp.congr fun q hq => ?_
      show _ = eS.e (fput spf p (d, nm) q)
      by_cases e : q = p
      · rw [e, fput_same, fput_same]
      · rw [fput_ne e, fput_ne e]
    · show LstD H2 M ((ms ++ [(nowF spf p, nowF spf d ++ [nm])]).map mvD)
      rw [List.map_append]
      exact hM1.exb e2 nMS
theorem ok_go_home (T : Txt K mg) : FnOk P w K mg base CX0 10 T.S_go_home.f T.S_go_home.fd ["self", "path"] (spHome w T.CS) := by
  refine T.S_go_home.F.ok c_S_go_home (fun vs H Q E h => ?_) (fun cdv A outer s H vs Q E hr h => ?_)
  · obtain ⟨_, _, _, _, _, _, _, _, _, _, _, _, _, rfl, _⟩ := h
    rfl
  · obtain ⟨s, v, P, S, M, b, wk, wf, ks, mk, spf, ms, p, rfl, hS, G, rv, hp, hpw, hne, hd, hms, k⟩ := h
    obtain ⟨dx, hs⟩ := hS.it
    refine ⟨_, pss_cons (ps_set (i := 2) c_S_go_home.nd rfl (Or.inl rfl) (pe_dgetN (room9 hr) (pe_fld (pv 0) rfl) (pv 1)))
      (pss_one (ps_expr (pe_meth (pv 0) T.clS T.S_go.m (ok_go T) hr T.S_go.b .nil pass0 (pa_cons (pv 1) (pa_cons (pe_slice sl_tupA (pv 2) po_none (po_some (pe_un un_neg pe_int))) (pa_cons (pe_ix ix_tup (pv 2) (pe_un un_neg pe_int) (fun _ _ => rfl)) pa_nil)))))), ?_⟩
    refine q_asgP (ev_get (E := eP) (p := p) (ev_fld (ev_var rfl) hs T.clS T.nS_places rfl) hS.pl (evd_var rfl rv) (keyD_pk p) hpw) fun x H1 e1 rx => ?_
    refine s_dropM (as := [.d (pk p), .d (pk (wf p).dropLast), .d (.text (lst (wf p)))]) (ev_var rfl) (e1 _ _ hs) rfl (eas_d (evd_var rfl (rv.ex e1)) (eas_d (evd_init (evd_var rfl rx)) (eas_d (evd_last (evd_var rfl rx) hne) eas_nil))) fun H3 vs e3 ha => ?_
    obtain ⟨_, _, _, rfl, a1, a2, a3⟩ := three_args ha
    have e13 := e1.trans e3
    exact ⟨s, _, _, _, P, S, M, b, wk, wf, ks, mk, spf, ms, p, _, _, rfl, hS.ex e13, G, a1, a2, a3, hp, hd, hms, fun H' x' h' => k H' ((ExS.of e13).trans x') h'⟩
end
end R
/-! W13: the sorter's making, a name that is free, a ring gone round -/
namespace R
open PySem L2 Evl
theorem fresh_exb {a p : Addr} {H H' : Hp} {o : HO} (x : ExB a H H') (ha : H' a = some o) (h : H' p = none) : H p = none := by
  cases hz : H p with
  | none => rfl
  | some o' =>
    by_cases e : p = a
    · subst e; rw [ha] at h; cases h
    · rw [x.1 p o' e hz] at h; cases h
theorem s_forRev {K : PySem.W.Frag} {σ : L2.St} {H : Hp} {N : Ends} {g : TG} {tu : TS} {ta : TA} {a : Addr} {ps : List Path} (h : EvA ta σ H [.ref a]) (hl : LstD H a (ps.map pk)) (Pv : Nat → L2.St → Hp → Prop) (h0 : ∀ H1, Ex H H1 → Pv 0 σ H1) (hk : ∀ i σ' H', Pv i σ' H' → Tk H H' ∧ ∀ o, H a = some o → H' a = some o)
    (hs : ∀ i v p σ' H', ps.reverse[i]? = some p → Rp H' v (pk p) → Pv i σ' H' → g v σ' H' fun σ2 H2 => tu { N with nx := Pv (i + 1), ct := Pv (i + 1), bk := N.nx } σ2 H2) (hd : ∀ σ' H', Pv ps.length σ' H' → N.nx σ' H') : tFor (iRev K ta) g tu N σ H := by
  obtain ⟨xs, h1, h2⟩ := hl
  have hlen : xs.length = ps.length := by rw [h2.length, List.length_map]
  refine h H (Ex.refl H) _ fun H1 e1 => ⟨a, xs, rfl, sq_of (e1 _ _ h1), RT.for_Itv (xs := xs) Pv (h0 H1 e1) (fun i σ' H' p => sq_of ((hk i σ' H' p).2 _ h1)) (fun i x σ' H' hi hx p => ?_) (fun σ' H' p => hd σ' H' (by rw [← hlen]; exact p))⟩
  obtain ⟨d, hd', r⟩ := h2.get hx
  rw [List.getElem?_map] at hd'
  cases hq : ps[xs.length - 1 - i]? with
  | none => rw [hq] at hd'; cases hd'
  | some q =>
  rw [hq] at hd'
  cases hd'
  refine hs i x q σ' H' ?_ (r.tk (hk i σ' H' p).1) p
  rw [List.getElem?_reverse (by omega), ← hlen]
  exact hq
theorem q_forRev {K : PySem.W.Frag} {σ : L2.St} {H : Hp} {N : Ends} {g : TG} {tu tz : TS} {ta : TA} {a : Addr} {ps : List Path} (h : EvA ta σ H [.ref a]) (hl : LstD H a (ps.map pk)) (Pv : Nat → L2.St → Hp → Prop) (h0 : ∀ H1, Ex H H1 → Pv 0 σ H1) (hk : ∀ i σ' H', Pv i σ' H' → Tk H H' ∧ ∀ o, H a = some o → H' a = some o)
    (hs : ∀ i v p σ' H', ps.reverse[i]? = some p → Rp H' v (pk p) → Pv i σ' H' → g v σ' H' fun σ2 H2 => tu { N with nx := Pv (i + 1), ct := Pv (i + 1), bk := tz N } σ2 H2) (hd : ∀ σ' H', Pv ps.length σ' H' → tz N σ' H') : tSeq (tFor (iRev K ta) g tu) tz N σ H :=
  s_forRev (N := { N with nx := tz N }) h hl Pv h0 hk hs hd

/-! ### arguments told by what holds of them -/
inductive PsOk (H : Hp) : List (V → Hp → Prop) → List V → Prop
  | nil : PsOk H [] []
  | cons {P : V → Hp → Prop} {Ps : List (V → Hp → Prop)} {v : V} {vs : List V} : P v H → PsOk H Ps vs → PsOk H (P :: Ps) (v :: vs)
def EvPs (ta : TA) (σ : L2.St) (H : Hp) (Ps : List (V → Hp → Prop)) : Prop := ∀ H1, Ex H H1 → ∀ Q : List V → Hp → Prop, (∀ vs H2, Ex H1 H2 → PsOk H2 Ps vs → Q vs H2) → ta σ H1 Q
theorem eps_nil {σ : L2.St} {H : Hp} : EvPs tNil σ H [] := fun H1 _ Q q => q [] H1 (Ex.refl _) .nil
theorem eps_cons {σ : L2.St} {H : Hp} {ta : TE} {tr : TA} {P : V → Hp → Prop} {Ps : List (V → Hp → Prop)} (h : EvP ta σ H P) (up : Up P) (hr : EvPs tr σ H Ps) : EvPs (tCons ta tr) σ H (P :: Ps) := fun H1 e1 Q q =>
  h H1 e1 _ fun v H2 e2 p => hr H2 (e1.trans e2) _ fun vs H3 e3 p' => q (v :: vs) H3 (e2.trans e3) (.cons (up _ _ _ e3 p) p')
theorem q_dropMP {σ : L2.St} {H : Hp} {N : Ends} {tz : TS} {sp : Sp} {E : XK} {ta : TA} {Ps : List (V → Hp → Prop)} {C o dx : Addr} {fs : List (Str × V)} {m : Str} {to : TE} (ho : Ev to σ H (.ref o)) (hi : H o = some (.ins C dx fs)) (hm : fs.lookup m = none) (h : EvPs ta σ H Ps)
    (hs : ∀ H1 vs, Ex H H1 → PsOk H1 Ps vs → sp (.ref o :: vs) H1 (fun _ H2 => tz N σ H2) E) : tSeq (tDrop (tMeth C m sp [] E to ta)) tz N σ H :=
  ho H (Ex.refl _) _ fun H2 e2 => ⟨o, dx, fs, rfl, e2 _ _ hi, hm, h H2 e2 _ fun vs H3 e3 p => by
    show sp (.ref o :: (vs ++ [])) H3 _ E
    rw [List.append_nil]
    exact hs H3 vs (e2.trans e3) p⟩
/-! ### names that are free -/
def asideN (k : Nat) : Str := "aside" ++ (toString (k : Int) : Str)
theorem aside_ok : ∀ k < 50, okS (asideN k) = true ∧ (asideN k).cps.map PyProof.Rows.lo1 = (asideN k).cps := by decide +kernel
theorem aside_inj : ∀ j < 50, ∀ k < 50, asideN j = asideN k → j = k := by decide +kernel
theorem aside_len : ∀ k : Nat, k < 50 → (toString (k : Int) : Str).length ≤ 10 := by decide +kernel
theorem aside_sum (k : Nat) (h : k < 50) : ("aside" : Str).length + (toString (k : Int) : Str).length ≤ 100000 := by
  have h1 := aside_len k h
  have h2 : ("aside" : Str).length = 5 := by decide +kernel
  omega
theorem aside_log : ∀ k : Nat, k < 50 → ((k : Int)).natAbs.log2 < 1920 := by decide +kernel
structure AsideOk (b : Bool) (ks : List Path) (spf : Path → Spot) (d : Path) (nm : Str) : Prop where
  ok : okS nm = true
  lo : low nm = nm
  free : ∀ p ∈ ks, (spf p).1 = d → hold b (spf p).2 ≠ nm
/-- a dict whose keys are texts -/
def NmAt (H : Hp) (d : Addr) (ns : List Str) : Prop := H d = some (.dK (ns.map fun n => ((Sum.inr n : Key), V.bl true)))
theorem nm_val (ns : List Str) (n : Str) : valV (ns.map fun n => ((Sum.inr n : Key), V.bl true)) (Sum.inr n) = if n ∈ ns then some (.bl true) else none := by
  induction ns with
  | nil => rfl
  | cons a ns ih =>
    rw [List.map_cons]
    by_cases h : a = n
    · subst h
      rw [valV_pos rfl, if_pos (List.mem_cons_self ..)]
    · rw [valV_neg fun e => h (Sum.inr.inj e), ih]
      by_cases hp : n ∈ ns
      · rw [if_pos hp, if_pos (List.mem_cons_of_mem _ hp)]
      · rw [if_neg hp, if_neg fun z => (List.mem_cons.mp z).elim (fun e => h e.symm) hp]
theorem nm_put (ns : List Str) (n : Str) : putK (ns.map fun n => ((Sum.inr n : Key), V.bl true)) (Sum.inr n) (.bl true) = (kins ns n).map fun n => ((Sum.inr n : Key), V.bl true) := by
  unfold putK
  rw [valV_any, nm_val]
  by_cases h : n ∈ ns
  · rw [if_pos h, kins_old h]
    simp only [Option.isSome_some, if_true, List.map_map]
    refine List.map_congr_left fun q _ => ?_
    show (if (Sum.inr q : Key) = Sum.inr n then ((Sum.inr q : Key), V.bl true) else ((Sum.inr q : Key), V.bl true)) = _
    split <;> rfl
  · rw [if_neg h, kins_new h]
    simp
section
variable {K : PySem.W.Frag} {σ : L2.St} {H : Hp} {d : Addr} {ns : List Str} {n : Str} {td ty tv : TE} {N : Ends} {tz : TS}
theorem ev_inNm (hk : Ev ty σ H (.str n)) (ha : Ev td σ H (.ref d)) (hd : NmAt H d ns) : Ev (tDIn ty td) σ H (.bl (decide (n ∈ ns))) := fun H1 e1 Q q =>
  hk H1 e1 _ fun H2 e2 => ha H2 (e1.trans e2) _ fun H3 e3 => by
    refine ⟨d, _, rfl, DGet.k (k := Sum.inr n) (((e1.trans e2).trans e3) _ _ hd), ?_⟩
    rw [nm_val]
    by_cases h : n ∈ ns
    · rw [if_pos h]; rw [decide_eq_true h] at q; exact q H3 (e2.trans e3)
    · rw [if_neg h]; rw [decide_eq_false h] at q; exact q H3 (e2.trans e3)
theorem s_putNm (hv : Ev tv σ H (.bl true)) (ha : Ev td σ H (.ref d)) (hk : Ev ty σ H (.str n)) (hd : NmAt H d ns) (hl : ns.length < 1000) (k : ∀ H1, ExB d H H1 → NmAt H1 d (kins ns n) → N.nx σ H1) : sDPut td ty tv N σ H :=
  hv H (Ex.refl _) _ fun H1 e1 => ha H1 e1 _ fun H2 e2 => hk H2 (e1.trans e2) _ fun H3 e3 => by
    have ex := (e1.trans e2).trans e3
    have hd3 := ex _ _ hd
    refine ⟨d, _, rfl, DPut.k (k := Sum.inr n) hd3 (sz_lt (by rw [List.length_map]; omega)), ?_⟩
    refine k _ ((ExB.of ex).trans (ExB.upd fun ys z => by rw [hd3] at z; cases z)) ?_
    rw [nm_put]
    exact upd_same
end
structure HomeOk (ks : List Path) (mk : Path → Mark) (wk : List Path) (wf : Path → Path) (p : Path) : Prop where
  k : p ∈ ks
  w : p ∈ wk
  ne : wf p ≠ []
  dr : isDr ks mk (wf p).dropLast = true
  fix : mk p = none → (wf p).dropLast = p.dropLast
theorem SpOk.put {ks : List Path} {mk : Path → Mark} {spf : Path → Spot} (G : SpOk ks mk spf) {p d : Path} {nm : Str} (h1 : isDr ks mk d = true) (h2 : mk p = none → d = p.dropLast) : SpOk ks mk (fput spf p (d, nm)) where
  few := G.few
  kne := G.kne
  len := G.len
  kdr := G.kdr
  dr := fun q hq => by
    by_cases e : q = p
    · rw [e, fput_same]; exact h1
    · rw [fput_ne e]; exact G.dr q hq
  fix := fun q hq hn => by
    by_cases e : q = p
    · rw [e, fput_same]; exact h2 (e ▸ hn)
    · rw [fput_ne e]; exact G.fix q hq hn
theorem homes_len (wf : Path → Path) : ∀ (ps : List Path) (st : (Path → Spot) × List (Path × Path)), (ps.foldl (homeS wf) st).2.length = st.2.length + ps.length
  | [], st => rfl
  | p :: ps, st => by
    rw [List.foldl_cons, homes_len wf ps]
    have h1 : (homeS wf st p).2.length = st.2.length + 1 := by simp [homeS, goS]
    rw [h1, List.length_cons]
    omega
theorem SpOk.homes {ks : List Path} {mk : Path → Mark} {wk : List Path} {wf : Path → Path} : ∀ {ps : List Path} {st : (Path → Spot) × List (Path × Path)}, SpOk ks mk st.1 → (∀ p ∈ ps, HomeOk ks mk wk wf p) → SpOk ks mk (ps.foldl (homeS wf) st).1
  | [], _, G, _ => G
  | p :: ps, st, G, h => by
    rw [List.foldl_cons]
    have hp := h p (List.mem_cons_self ..)
    exact SpOk.homes (st := homeS wf st p) (G.put hp.dr hp.fix) fun q hq => h q (List.mem_cons_of_mem _ hq)
def roundS (wf : Path → Path) (st : (Path → Spot) × List (Path × Path)) (ring : List Path) (nm : Str) : (Path → Spot) × List (Path × Path) := ring.reverse.foldl (homeS wf) (goS st (ring.headD []) (st.1 (ring.headD [])).1 nm)
def spSpare (w : World) (C : Addr) : Sp := fun vs H Q _ => ∃ s u P S M b wk wf ks mk spf ms d, vs = [.ref s, u] ∧ SortAt w C H s P S M b wk wf ks spf ms ∧ SpOk ks mk spf ∧ Rp H u (pk d) ∧
  RetP (fun v H' => ∃ nm, v = .str nm ∧ AsideOk b ks spf d nm) H Q
def spRound (w : World) (C : Addr) : Sp := fun vs H Q _ => ∃ s Rg P S M b wk wf ks mk spf ms r0 rest, vs = [.ref s, .ref Rg] ∧ SortAt w C H s P S M b wk wf ks spf ms ∧ SpOk ks mk spf ∧ LstD H Rg ((r0 :: rest).map pk) ∧ Rg ≠ M ∧ (∀ p ∈ r0 :: rest, HomeOk ks mk wk wf p) ∧ ms.length ≤ 19000 ∧ rest.length ≤ 60 ∧
  ∀ H' nm, AsideOk b ks spf (spf r0).1 nm → ExS S M H H' → SortAt w C H' s P S M b wk wf ks (roundS wf (spf, ms) (r0 :: rest) nm).1 (roundS wf (spf, ms) (r0 :: rest) nm).2 → Q .non H'
section
variable {P : Program} {w : World} {K : PySem.W.Frag} {mg : Str → Option Value} {base : Heap}
theorem ok_Si (T : Txt K mg) : FnOk P w K mg base CX0 2 T.fSi T.fdSi ["self", "hall", "wishes"] (spSi w T.CS T.CH) := by
  refine T.FSi.ok c_S___init__ (fun vs H Q E h => ?_) (fun cdv A outer sh H vs Q E hr h => ?_)
  · obtain ⟨_, _, _, _, _, _, _, _, _, rfl, _⟩ := h
    rfl
  · obtain ⟨s, a, W, b, ks, mk, wk, wf, dx, rfl, hs, hH, hW, G, k⟩ := h
    have hr9 := room9 hr
    refine ⟨_, pss_cons (ps_fld (pv 0) (pe_meth0 (pv 1) T.clH T.H_is_blind.m (ok_is_blind T) hr T.H_is_blind.b .nil pass0) rfl)
      (pss_cons (ps_fld (pv 0) (pe_callTy (call_dictPN rfl hr9) (by rfl) T.z_dict (by decide +kernel) (pa_cons (pv 2) pa_nil)) rfl)
      (pss_cons (ps_fld (pv 0) pe_dnewN rfl)
      (pss_cons (ps_fld (pv 0) (pe_lst pa_nil) rfl)
      (pss_one (ps_for PassesOwn.never rfl (pi_list (pe_meth0 (pv 1) T.clH T.H_rows.m (ok_rows T) hr T.H_rows.b .nil pass0)) (pg_tup rfl (pgs_cons (pg_name (i := 3) c_S___init__.nd rfl (Or.inl rfl)) (pgs_cons (pg_name (i := 4) c_S___init__.nd rfl (Or.inl rfl)) pgs_nil)))
        (pss_one (ps_dputN hr9 (pe_fld (pv 0) rfl) (pv 3) (pe_tup (pa_cons (pe_slice sl_tupA (pv 3) po_none (po_some (pe_un un_neg pe_int))) (pa_cons (pe_ix ix_tup (pv 3) (pe_un un_neg pe_int) (fun _ _ => rfl)) pa_nil)))))))))), ?_⟩
    obtain ⟨dh, m, hA, hm⟩ := id hH
    have kfew := G.few
    have wfew := G.wfew
    have slen := sortP_len ks
    have snd := sortP_nodup hm.nodup
    have nas : a ≠ s := fun z => by
      rw [z, hs] at hA
      injection hA with hA
      injection hA with _ _ h3
      cases h3
    have nWs : W ≠ s := fun z => by
      obtain ⟨xs, h1, _⟩ := hW
      rw [z, hs] at h1
      cases h1
    have nms : m ≠ s := fun z => by
      obtain ⟨o, ho⟩ := hm.at
      rw [z, hs] at ho
      cases ho
    refine q_fldV (v := .bl b) (ev_of (evp_meth (as := []) (P := fun x _ => x = V.bl b) (ev_var rfl) hA rfl eas_nil fun H2 vs e2 ha Q' q => ?_)) (ev_var rfl) hs T.clS T.nS_blind (by decide) fun H1 e1 => ?_
    · cases ha
      exact ⟨a, b, ks, mk, rfl, hH.ex e2, fun H3 e3 => q _ H3 e3 rfl⟩
    have x1 : ExB s H (upd H1 s (.ins T.CS dx (putF "blind" (.bl b) []))) := (ExB.of e1).trans (ExB.upd fun ys q => by rw [e1 _ _ hs] at q; cases q)
    refine q_fldP (evp_dictF (E := eP) (w := w) (ks := wk) (f := fun p => pk (wf p)) (evl_var rfl (hW.exb x1 nWs)) G.one (fun q _ => keyD_pk q) (by omega)) (up_fd _) (ev_var rfl) upd_same T.clS T.nS_places (by show 1 < 1000; decide) fun vp H2 e2 ⟨Pd, evp, hP0, hPd⟩ => ?_
    subst evp
    have hs2 := e2 _ _ (upd_same (H := H1) (a := s))
    have hPH := fresh_exb x1 upd_same hP0
    have x2 := (x1.ex e2).trans (ExB.upd (a := s) (o := .ins T.CS dx (putF "places" (.ref Pd) (putF "blind" (.bl b) []))) fun ys q => by rw [hs2] at q; cases q)
    have nPs : Pd ≠ s := fun z => by rw [z, hs] at hPH; cases hPH
    have hPd2 := hPd.exb (ExB.upd (a := s) (o := .ins T.CS dx (putF "places" (.ref Pd) (putF "blind" (.bl b) []))) fun ys q => by rw [hs2] at q; cases q) nPs
    refine q_fldP ev_dnew (up_nd _) (ev_var rfl) upd_same T.clS T.nS_spots (by show 2 < 1000; decide) fun vp H3 e3 ⟨Sd, evp, hS0, oS, hSd⟩ => ?_
    subst evp
    have hs3 := e3 _ _ (upd_same (H := H2) (a := s))
    have hSH := fresh_exb x2 upd_same hS0
    have nPS : Pd ≠ Sd := fun z => by
      obtain ⟨o, ho⟩ := hPd2.at
      rw [← z] at hS0
      rw [hS0] at ho
      cases ho
    have xu3 : ExB s H3 (upd H3 s (.ins T.CS dx (putF "spots" (.ref Sd) (putF "places" (.ref Pd) (putF "blind" (.bl b) []))))) := ExB.upd fun ys q => by rw [hs3] at q; cases q
    have x3 := (x2.ex e3).trans xu3
    have nSs : Sd ≠ s := fun z => by rw [z, hs] at hSH; cases hSH
    have hPd3 := (hPd2.ex e3).exb xu3 nPs
    have hSd3 := hSd.exb xu3 nSs
    refine q_fldP (evn_lst eds_nil) (up_n _ _) (ev_var rfl) upd_same T.clS T.nS_moves (by show 3 < 1000; decide) fun vp H4 e4 ⟨Md, evp, hM0, hMd⟩ => ?_
    subst evp
    have hs4 := e4 _ _ (upd_same (H := H3) (a := s))
    have hMH := fresh_exb x3 upd_same hM0
    have nMs : Md ≠ s := fun z => by rw [z, hs] at hMH; cases hMH
    have nSM : Sd ≠ Md := fun z => by rw [← z, hSd3.1] at hM0; cases hM0
    have xu4 : ExB s H4 (upd H4 s (.ins T.CS dx (putF "moves" (.ref Md) (putF "spots" (.ref Sd) (putF "places" (.ref Pd) (putF "blind" (.bl b) [])))))) := ExB.upd fun ys q => by rw [hs4] at q; cases q
    rw [sF_put] at xu4 ⊢
    have x4 := (x3.ex e4).trans xu4
    have hPd4 := (hPd3.ex e4).exb xu4 nPs
    have hSd4 := (hSd3.ex e4).exb xu4 nSs
    have hMd4 := hMd.exb xu4 nMs
    have hH4 : HallAt w T.CH (upd H4 s (.ins T.CS dx (sF b Pd Sd Md))) a b ks mk := ⟨dh, m, x4.1 _ _ nas hA, hm.exb x4 nms⟩
    refine s_forN (ds := rowsD (sortP ks) mk) (evp_meth (as := []) (P := IsL (rowsD (sortP ks) mk)) (ev_var rfl) (x4.1 _ _ nas hA) rfl eas_nil fun H5 vs e5 ha Q' q => ?_)
      (fun L H5 i σ' H' => (∃ z1 z2, σ' = [some (.ref s), some (.ref a), some (.ref W), z1, z2]) ∧ L ≠ Sd ∧ ExB Sd H5 H' ∧ ExB s H H' ∧ H' s = some (.ins T.CS dx (sF b Pd Sd Md)) ∧ Fd eP w H' Pd wk (fun p => pk (wf p)) ∧ LstD H' Md [] ∧ Fd eP w H' Sd ((sortP ks).take i) (fun p => eS.e (p.dropLast, lst p)))
      (fun L H5 e5 hL => ⟨⟨_, _, rfl⟩, fun z => lst_no (z ▸ hL) (e5 _ _ hSd4.1), ExB.refl _ _, x4.ex e5, e5 _ _ upd_same, hPd4.ex e5, hMd4.ex e5, (fd_new hSd4).ex e5⟩)
      (fun L H5 i σ' H' hp => ⟨hp.2.2.1.2, fun o ho => hp.2.2.1.1 _ _ hp.2.1 ho⟩) (fun L H5 i v d σ' H' e5 hi rv hp => ?_) (fun L H5 σ' H' e5 hp => ?_)
    · cases ha
      exact ⟨a, b, ks, mk, rfl, hH4.ex e5, G.kne, by omega, fun v H2 e2 ⟨p, h1, _, h2⟩ => q v H2 e2 ⟨p, h1, h2⟩⟩
    · obtain ⟨⟨z1, z2, rfl⟩, nLS, x5, xs, hs5, hP5, hM5, hS5⟩ := hp
      obtain ⟨p, hp, rfl⟩ := rows_at hi
      have hpk : p ∈ ks := mem_sortP.mp (List.mem_of_getElem? hp)
      refine g_two rv fun vp vm rp rm => ?_
      refine s_putF (E := eP) (p := p) (e := eS.e (p.dropLast, lst p)) (evd_tup (eds_cons (evd_init (evd_var rfl rp)) (eds_cons (evd_last (evd_var rfl rp) (G.kne p hpk)) eds_nil)) (by simp)) (ev_fld (ev_var rfl) hs5 T.clS T.nS_spots rfl) (evd_var rfl rp) (keyD_pk p) hS5 (by rw [List.length_take]; omega) fun H6 e6 hS6 => ?_
      refine ⟨⟨_, _, rfl⟩, nLS, x5.trans e6, xs.mut hSH e6, e6.1 _ _ nSs.symm hs5, hP5.exb e6 nPS, hM5.exb e6 nSM.symm, ?_⟩
      rw [take_snoc hp, ← kins_new (nodup_take_not snd hp)]
      refine hS6.congr fun q hq => ?_
      by_cases e : q = p
      · rw [e, fput_same]
      · rw [fput_ne e]
    · obtain ⟨⟨z1, z2, rfl⟩, nLS, x5, xs, hs5, hP5, hM5, hS5⟩ := hp
      have hlen : (rowsD (sortP ks) mk).length = (sortP ks).length := by unfold rowsD; rw [List.length_map]
      rw [hlen, List.take_length] at hS5
      exact k _ Pd Sd Md xs hPH hSH hMH ⟨⟨dx, hs5⟩, hP5, hS5, hM5, nPS⟩

theorem ok_spare_name (T : Txt K mg) : FnOk P w K mg base CX0 2 T.S_spare_name.f T.S_spare_name.fd ["self", "drawer"] (spSpare w T.CS) := by
  refine T.S_spare_name.F.ok c_S_spare_name (fun vs H Q E h => ?_) (fun cdv A outer sh H vs Q E hr h => ?_)
  · obtain ⟨_, _, _, _, _, _, _, _, _, _, _, _, _, rfl, _⟩ := h
    rfl
  · obtain ⟨s, u, P, S, M, b, wk, wf, ks, mk, spf, ms, d, rfl, hS, G, ru, k⟩ := h
    have hr9 := room9 hr
    have hu := hu_of hr
    obtain ⟨dx, hs⟩ := hS.it
    have kfew := G.few
    refine ⟨_, pss_cons (ps_set (i := 2) c_S_spare_name.nd rfl (Or.inl rfl) pe_dnewK)
      (pss_cons (ps_for PassesOwn.never rfl (pi_valuesN (pe_fld (pv 0) rfl)) (pg_tup rfl (pgs_cons (pg_name (i := 3) c_S_spare_name.nd rfl (Or.inl rfl)) (pgs_cons (pg_name (i := 4) c_S_spare_name.nd rfl (Or.inl rfl)) pgs_nil)))
        (pss_one (ps_if (pt_cmpR (op_eqD hr.units) (pv 3) (pv 1) (nomark _)) (pss_one (ps_dput hu (pv 2) (pe_call (ok_held T) hr rfl T.held_as.g T.held_as.F.kp T.held_as.b .nil pass0 (pa_cons (pv 4) (pa_cons (pe_fld (pv 0) rfl) pa_nil))) pe_bl rfl)) pss_nil)))
      (pss_cons (ps_set (i := 5) c_S_spare_name.nd rfl (Or.inl rfl) pe_int)
      (pss_cons (ps_while PassesOwn.never (pt_cmp (pc_din hu (pe_op op_add_str pe_str (pe_callTy call_str_int (by rfl) T.z_str (by decide +kernel) (pa_cons (pv 5) pa_nil))) (pv 2)))
        (pss_one (ps_set (i := 5) c_S_spare_name.nd rfl (Or.inl rfl) (pe_op op_add (pv 5) pe_int))))
      (pss_one (ps_ret (pe_op op_add_str pe_str (pe_callTy call_str_int (by rfl) T.z_str (by decide +kernel) (pa_cons (pv 5) pa_nil)))))))), ?_⟩
    have name : ∀ (σ : L2.St) (H' : Hp) (j : Nat), j < 50 → σ[5]? = some (some (.int (j : Int))) → Ev (tOp rAddS (tC (.str "aside")) (tCB (fun xs H Q => ∃ i, xs = [.int i] ∧ i.natAbs.log2 < 1920 ∧ Q (.str (toString i)) H) (tCons (tVar 5) tNil))) σ H' (.str (asideN j)) := fun σ H' j hj hv =>
      ev_addS ev_c (ev_cb (ea_cons (ev_var hv) ea_nil) fun H1 _ Q' q => ⟨(j : Int), rfl, aside_log j hj, q H1 (Ex.refl _)⟩) (aside_sum j hj)
    intro nd hnd
    have e1 : Ex H (upd H nd (.dK [])) := Ex.new hnd
    have nsn : s ≠ nd := fun z => by rw [← z, hs] at hnd; cases hnd
    obtain ⟨oS, hoS⟩ := hS.sp.ex e1
    have nSn : S ≠ nd := fun z => by
      obtain ⟨o, ho⟩ := hS.sp.at
      rw [z, hnd] at ho
      cases ho
    refine q_forV (ev_fld (ev_var rfl) (e1 _ _ hs) T.clS T.nS_spots rfl) hoS (fun i σ' H' => (∃ z1 z2, σ' = [some (.ref s), some u, some (.ref nd), z1, z2, none]) ∧ ExB nd (upd H nd (.dK [])) H' ∧ Ex H H' ∧ ∃ ns, NmAt H' nd ns ∧ ns.length ≤ i ∧ ∀ p ∈ ks.take i, (spf p).1 = d → hold b (spf p).2 ∈ ns)
      (fun H1 e => ⟨⟨_, _, rfl⟩, ExB.of e, e1.trans e, [], e _ _ upd_same, Nat.le_refl _, fun p hp => by cases hp⟩) (fun i σ' H' hp => ⟨hp.2.1.2, fun o ho => hp.2.1.1 _ _ nSn ho⟩) (fun i v p σ' H' hi rv hp => ?_) (fun σ' H' hp => ?_)
    · obtain ⟨⟨z1, z2, rfl⟩, x, e2, ns, hns, hl, hin⟩ := hp
      have hlt : i < ks.length := (List.getElem?_eq_some_iff.mp hi).1
      refine g_two rv fun y z ry rz => ?_
      have hz : okS (spf p).2 = true := by cases rz; assumption
      refine s_when (et_test (ev_eqP (p := (spf p).1) (evd_var rfl ry) (evd_var rfl (ru.ex e2)))) (fun hb H3 e3 => ?_) (fun hb H3 e3 => ?_)
      · refine s_putNm (n := hold b (spf p).2) ev_c (ev_var rfl) (ev_of (evp_call (as := [.v (.str (spf p).2), .v (.bl b)]) (P := fun x _ => x = V.str (hold b (spf p).2)) (eas_v (ev_txt (evd_var rfl (rz.ex e3))) (eas_v (ev_fld (ev_var rfl) ((e2.trans e3) _ _ hs) T.clS T.nS_blind rfl) eas_nil)) fun H4 vs e4 ha Q' q => ?_)) (e3 _ _ hns) (by omega) fun H4 e4 hns4 => ?_
        · obtain ⟨_, _, rfl, rfl, rfl⟩ := two_args ha
          exact ⟨_, _, rfl, okS_len hz, fun H5 e5 => q _ H5 e5 rfl⟩
        · refine ⟨⟨_, _, rfl⟩, (x.ex e3).trans e4, R.Ex.mutB (e2.trans e3) hnd e4, _, hns4, Nat.le_trans (kins_len _ _) (by omega), fun q hq hd => ?_⟩
          rw [take_snoc hi] at hq
          rcases List.mem_append.mp hq with hq | hq
          · exact mem_kins.mpr (.inr (hin q hq hd))
          · rw [List.mem_singleton.mp hq]
            exact mem_kins.mpr (.inl rfl)
      · refine ⟨⟨_, _, rfl⟩, x.ex e3, e2.trans e3, ns, e3 _ _ hns, by omega, fun q hq hd => ?_⟩
        rw [take_snoc hi] at hq
        rcases List.mem_append.mp hq with hq | hq
        · exact hin q hq hd
        · rw [List.mem_singleton.mp hq] at hd
          exact absurd hd (of_decide_eq_false hb)
    · obtain ⟨⟨z1, z2, rfl⟩, x, e2, ns, hns, hl, hin⟩ := hp
      rw [List.take_length] at hin
      refine q_asg ev_c fun H3 e3 => ?_
      refine q_while (fun m σ' H' => ∃ j : Nat, σ' = [some (.ref s), some u, some (.ref nd), z1, z2, some (.int (j : Int))] ∧ m = 45 - j ∧ Ex H H' ∧ NmAt H' nd ns ∧ ∀ i < j, asideN i ∈ ns) 45
        ⟨0, rfl, rfl, e2.trans e3, e3 _ _ hns, fun i hi => absurd hi (Nat.not_lt_zero _)⟩ (fun m σ' H' hw => ?_)
      obtain ⟨j, rfl, rfl, e4, hn4, hall⟩ := hw
      have hj : j ≤ 40 := by
        rcases Nat.lt_or_ge 40 j with hgt | hle
        · have h1 : ((List.range 41).map asideN).length ≤ ns.length := nodup_few (by
            refine List.pairwise_map.mpr (List.Pairwise.imp_of_mem ?_ (List.nodup_range (n := 41)))
            intro x y hx hy hne he
            exact hne (aside_inj x (by have := List.mem_range.mp hx; omega) y (by have := List.mem_range.mp hy; omega) he)) fun n hn => by
              obtain ⟨i, hi, rfl⟩ := List.mem_map.mp hn
              exact hall i (by have := List.mem_range.mp hi; omega)
          rw [List.length_map, List.length_range] at h1
          omega
        · exact hle
      refine ⟨_, et_B (ev_inNm (name _ _ j (by omega) rfl) (ev_var rfl) hn4), fun hb H5 e5 => ?_, fun hb H5 e5 => ?_⟩
      · refine ⟨_, fun _ _ h => ⟨45 - (j + 1), by omega, h⟩, s_asg (ev_is (ev_op (ev_var rfl) ev_c rv_I0) rfl) fun H6 e6 => ?_⟩
        refine ⟨j + 1, ?_, rfl, (e4.trans e5).trans e6, (e5.trans e6) _ _ hn4, fun i hi => ?_⟩
        · show [some (V.ref s), some u, some (.ref nd), z1, z2, some (.int ((j : Int) + 1))] = _
          rw [Int.natCast_add]
          rfl
        · rcases Nat.lt_succ_iff_lt_or_eq.mp hi with h | h
          · exact hall i h
          · rw [h]; exact of_decide_eq_true hb
      · have hno : asideN j ∉ ns := of_decide_eq_false hb
        have hok := aside_ok j (by omega)
        refine s_ret (name _ _ j (by omega) rfl) fun H6 e6 => k _ H6 ((e4.trans e5).trans e6) ⟨asideN j, rfl, hok.1, ?_, fun p hp hd he => hno (he ▸ hin p hp hd)⟩
        rw [low_eq hok.1, hok.2]
theorem ok_go_round (T : Txt K mg) : FnOk P w K mg base CX0 11 T.S_go_round.f T.S_go_round.fd ["self", "ring"] (spRound w T.CS) := by
  refine T.S_go_round.F.ok c_S_go_round (fun vs H Q E h => ?_) (fun cdv A outer sh H vs Q E hr h => ?_)
  · obtain ⟨_, _, _, _, _, _, _, _, _, _, _, _, _, _, rfl, _⟩ := h
    rfl
  · obtain ⟨s, Rg, P, S, M, b, wk, wf, ks, mk, spf, ms, r0, rest, rfl, hS, G, hR, nRM, hho, hms, hrl, k⟩ := h
    have hr9 := room9 hr
    obtain ⟨dx, hs⟩ := hS.it
    have h0 := hho r0 (List.mem_cons_self ..)
    have hat : atI ((r0 :: rest).map pk) ((0 : Nat) : Int) = some (pk r0) := atI_nat rfl
    refine ⟨_, pss_cons (ps_set (i := 2) c_S_go_round.nd rfl (Or.inl rfl) (pe_ix ix_tup (pe_dgetN hr9 (pe_fld (pv 0) rfl) (pe_ix ix_list (pv 1) pe_int (fun _ _ => rfl))) pe_int (fun _ _ => rfl)))
      (pss_cons (ps_expr (pe_meth (pv 0) T.clS T.S_go.m (ok_go T) (hr.mono (by decide)) T.S_go.b .nil pass0 (pa_cons (pe_ix ix_list (pv 1) pe_int (fun _ _ => rfl)) (pa_cons (pv 2) (pa_cons (pe_meth (pv 0) T.clS T.S_spare_name.m (ok_spare_name T) (hr.mono (by decide)) T.S_spare_name.b .nil pass0 (pa_cons (pv 2) pa_nil)) pa_nil)))))
      (pss_one (ps_for PassesOwn.never rfl (pi_reversed (by rfl) T.z_reversed (pa_cons (pv 1) pa_nil)) (pg_name (i := 3) c_S_go_round.nd rfl (Or.inl rfl)) (pss_one (ps_expr (pe_meth (pv 0) T.clS T.S_go_home.m (ok_go_home T) hr T.S_go_home.b .nil pass0 (pa_cons (pv 3) pa_nil))))))), ?_⟩
    refine q_asgP (evd_ix (i := ((0 : Nat) : Int)) (ds := [pk (spf r0).1, .text (spf r0).2]) (d := pk (spf r0).1) (ev_get (E := eP) (p := r0) (ev_fld (ev_var rfl) hs T.clS T.nS_spots rfl) hS.sp (evd_ixL (evl_var rfl hR) ev_c hat) (keyD_pk r0) h0.k) ev_c (atI_nat rfl)) fun y H1 e1 ry => ?_
    have G' : isDr ks mk (spf r0).1 = true := G.dr r0 h0.k
    refine q_dropMP (Ps := [IsD (pk r0), IsD (pk (spf r0).1), fun v _ => ∃ nm, v = V.str nm ∧ AsideOk b ks spf (spf r0).1 nm]) (ev_var rfl) (e1 _ _ hs) rfl (eps_cons (evd_ixL (evl_var rfl (hR.ex e1)) ev_c hat) (up_d _) (eps_cons (evd_var rfl ry) (up_d _) (eps_cons (evp_meth (as := [.d (pk (spf r0).1)]) (P := fun v _ => ∃ nm, v = V.str nm ∧ AsideOk b ks spf (spf r0).1 nm) (ev_var rfl) (e1 _ _ hs) rfl (eas_d (evd_var rfl ry) eas_nil) fun H5 vs e5 ha Q' q => ?_) (fun _ _ _ _ h => h) eps_nil))) fun H5 vs e5 ha => ?_
    · obtain ⟨_, rfl, a1⟩ := one_arg ha
      exact ⟨s, _, P, S, M, b, wk, wf, ks, mk, spf, ms, _, rfl, hS.ex (e1.trans e5), G, a1, q⟩
    have e05 := e1.trans e5
    cases ha with
    | cons r3 ha =>
    cases ha with
    | cons r4 ha =>
    cases ha with
    | cons r5 ha =>
    cases ha
    obtain ⟨nm, rfl, hnm⟩ := r5
    refine ⟨s, _, _, .str nm, P, S, M, b, wk, wf, ks, mk, spf, ms, r0, (spf r0).1, nm, rfl, hS.ex e05, G, r3, r4, .str nm hnm.ok, h0.k, G', by omega, fun H6 x6 hS6 => ?_⟩
    have nRS : Rg ≠ S := fun z => by
      obtain ⟨o, ho⟩ := hS.sp.at
      exact lst_no (z ▸ hR) ho
    have hR6 : LstD H6 Rg ((r0 :: rest).map pk) := by
      obtain ⟨xs, h1, h2⟩ := hR.ex e05
      exact ⟨xs, x6.1 _ _ nRS nRM h1, h2.tk x6.2⟩
    have G1 : SpOk ks mk (goS (spf, ms) r0 (spf r0).1 nm).1 := G.put G' fun hn => G.fix r0 h0.k hn
    have x06 : ExS S M H H6 := (ExS.of e05).trans x6
    refine s_forRev (ea_cons (ev_var rfl) ea_nil) hR6 (fun i σ' H' => (∃ z, σ' = [some (.ref s), some (.ref Rg), some y, z]) ∧ ExS S M H6 H' ∧ SortAt w T.CS H' s P S M b wk wf ks (((r0 :: rest).reverse.take i).foldl (homeS wf) (goS (spf, ms) r0 (spf r0).1 nm)).1 (((r0 :: rest).reverse.take i).foldl (homeS wf) (goS (spf, ms) r0 (spf r0).1 nm)).2)
      (fun H7 e7 => ⟨⟨_, rfl⟩, ExS.of e7, hS6.ex e7⟩) (fun i σ' H' hp => ⟨hp.2.1.2, fun o ho => hp.2.1.1 _ _ nRS nRM ho⟩) (fun i v p σ' H' hi rv hp => ?_) (fun σ' H' hp => ?_)
    · obtain ⟨⟨z, rfl⟩, x7, hS7⟩ := hp
      obtain ⟨dx', hs7⟩ := hS7.it
      have hp := hho p (List.mem_reverse.mp (List.mem_of_getElem? hi))
      have Gi : SpOk ks mk (((r0 :: rest).reverse.take i).foldl (homeS wf) (goS (spf, ms) r0 (spf r0).1 nm)).1 := SpOk.homes (wk := wk) G1 fun q hq => hho q (List.mem_reverse.mp (List.mem_of_mem_take hq))
      refine s_dropM (as := [.d (pk p)]) (ev_var rfl) hs7 rfl (eas_d (evd_var rfl rv) eas_nil) fun H8 vs e8 ha => ?_
      obtain ⟨_, rfl, a1⟩ := one_arg ha
      refine ⟨s, _, P, S, M, b, wk, wf, ks, mk, _, _, p, rfl, hS7.ex e8, Gi, a1, hp.k, hp.w, hp.ne, hp.dr, ?_, fun H9 x9 hS9 => ⟨⟨_, rfl⟩, (x7.trans (ExS.of e8)).trans x9, ?_⟩⟩
      · have h1 := homes_len wf ((r0 :: rest).reverse.take i) (goS (spf, ms) r0 (spf r0).1 nm)
        have h2 : (goS (spf, ms) r0 (spf r0).1 nm).2.length = ms.length + 1 := by simp [goS]
        have h3 : ((r0 :: rest).reverse.take i).length ≤ rest.length + 1 := by rw [List.length_take, List.length_reverse, List.length_cons]; omega
        omega
      · rw [take_snoc hi, List.foldl_append]
        exact hS9
    · obtain ⟨⟨z, rfl⟩, x7, hS7⟩ := hp
      rw [List.take_of_length_le (by rw [List.length_reverse]; exact Nat.le_refl _)] at hS7
      exact k _ nm hnm (x06.trans x7) hS7
end
end R
/-! W14: the row; whether a row does the wishes -/
namespace R
open PySem L2 Evl
abbrev St2 := (Path → Spot) × List (Path × Path)
inductive RingsRun (b : Bool) (ks : List Path) (wf : Path → Path) : List (List Path) → St2 → St2 → Prop
  | nil (st : St2) : RingsRun b ks wf [] st st
  | cons {r0 : Path} {rest : List Path} {rs : List (List Path)} {st st' : St2} {nm : Str} : AsideOk b ks st.1 (st.1 r0).1 nm → RingsRun b ks wf rs (roundS wf st (r0 :: rest) nm) st' → RingsRun b ks wf ((r0 :: rest) :: rs) st st'
theorem RingsRun.snoc {b : Bool} {ks : List Path} {wf : Path → Path} {rs : List (List Path)} {st st' : St2} (h : RingsRun b ks wf rs st st') {r0 : Path} {rest : List Path} {nm : Str} (hn : AsideOk b ks st'.1 (st'.1 r0).1 nm) : RingsRun b ks wf (rs ++ [r0 :: rest]) st (roundS wf st' (r0 :: rest) nm) := by
  induction h with
  | nil st => exact .cons hn (.nil _)
  | cons h1 _ ih => exact .cons h1 (ih hn)
def st0 : St2 := (fun p => (p.dropLast, lst p), [])
def chS (wf : Path → Path) (cs : List (List Path)) (st : St2) : St2 := cs.foldl (fun st c => c.reverse.foldl (homeS wf) st) st
def RowOf (b : Bool) (ks wk : List Path) (wf : Path → Path) (n : Nat) (ms : List (Path × Path)) : Prop := ∃ spf, RingsRun b (sortP ks) wf (ringsM (movers wk wf) (ahW b ks wk wf) n) (chS wf (chainsM (movers wk wf) (ahW b ks wk wf) n) st0) (spf, ms)
def spRowFor (w : World) (C : Addr) : Sp := fun vs H Q _ => ∃ a W b ks mk wk wf n, vs = [.ref a, .ref W] ∧ HallAt w C H a b ks mk ∧ LstD H W (wD wk wf) ∧ GoodW ks mk wk wf ∧ foundM b (plc wk wf) (sortP (sortP ks)) = [] ∧
  AhOk (movers wk wf) (ahW b ks wk wf) n ∧ RetP (fun v H' => ∃ ms, RowOf b ks wk wf n ms ∧ NewL H (ms.map mvD) v H') H Q
theorem isDr_perm {ks ks' : List Path} {mk : Path → Mark} (h : ∀ p, p ∈ ks ↔ p ∈ ks') (p : Path) : isDr ks mk p = isDr ks' mk p := by
  unfold isDr
  by_cases h1 : p ∈ ks
  · have h2 := (h p).mp h1
    simp [h1, h2]
  · have h2 : p ∉ ks' := fun z => h1 ((h p).mpr z)
    simp [h1, h2]
theorem isDr_sort {ks : List Path} {mk : Path → Mark} (p : Path) : isDr (sortP ks) mk p = isDr ks mk p := isDr_perm (fun _ => mem_sortP) p
theorem GoodW.sp {ks : List Path} {mk : Path → Mark} {wk : List Path} {wf : Path → Path} (G : GoodW ks mk wk wf) : SpOk (sortP ks) mk st0.1 where
  few := by rw [sortP_len]; exact G.few
  kne := fun p hp => G.kne p (mem_sortP.mp hp)
  len := fun p hp => G.len p (mem_sortP.mp hp)
  kdr := fun p hp => by rw [isDr_sort]; exact G.kdr p (mem_sortP.mp hp)
  dr := fun p hp => by rw [isDr_sort]; exact G.kdr p (mem_sortP.mp hp)
  fix := fun p hp _ => rfl
theorem GoodW.home {ks : List Path} {mk : Path → Mark} {wk : List Path} {wf : Path → Path} (G : GoodW ks mk wk wf) {p : Path} (h : p ∈ wk) : HomeOk (sortP ks) mk wk wf p where
  k := mem_sortP.mpr (G.sub p h)
  w := h
  ne := G.ne p h
  dr := by rw [isDr_sort]; exact G.dr p h
  fix := G.fix p h
theorem SpOk.chs {ks : List Path} {mk : Path → Mark} {wk : List Path} {wf : Path → Path} : ∀ {cs : List (List Path)} {st : St2}, SpOk ks mk st.1 → (∀ c ∈ cs, ∀ p ∈ c, HomeOk ks mk wk wf p) → SpOk ks mk (chS wf cs st).1
  | [], _, G, _ => G
  | c :: cs, st, G, h => SpOk.chs (cs := cs) (SpOk.homes (wk := wk) G fun p hp => h c (List.mem_cons_self ..) p (List.mem_reverse.mp hp)) fun c' hc => h c' (List.mem_cons_of_mem _ hc)
theorem chs_len {wf : Path → Path} : ∀ {cs : List (List Path)} {st : St2}, (∀ c ∈ cs, c.length ≤ 51) → (chS wf cs st).2.length ≤ st.2.length + cs.length * 51
  | [], _, _ => by simp [chS]
  | c :: cs, st, h => by
    have h1 := chs_len (wf := wf) (cs := cs) (st := c.reverse.foldl (homeS wf) st) fun c' hc => h c' (List.mem_cons_of_mem _ hc)
    have h2 := homes_len wf c.reverse st
    have h3 := h c (List.mem_cons_self ..)
    rw [List.length_reverse] at h2
    show (chS wf cs (c.reverse.foldl (homeS wf) st)).2.length ≤ _
    rw [List.length_cons, Nat.succ_mul]
    omega
theorem along_len (ah : Path → Option Path) {n : Nat} (hn : n ≤ 50) (p : Path) : (alongF ah n p).length ≤ 51 := by
  have := goF_len ah p n (ah p)
  unfold alongF
  rw [List.length_cons]
  omega
theorem rings_are {ah : Path → Option Path} {n : Nat} : ∀ {ps seen : List Path} {r : List Path}, r ∈ ringsF ah n ps seen → ∃ p ∈ ps, r = alongF ah n p
  | [], _, _, h => by cases h
  | p :: ps, seen, r, h => by
    unfold ringsF at h
    split at h
    · obtain ⟨q, hq, e⟩ := rings_are h
      exact ⟨q, List.mem_cons_of_mem _ hq, e⟩
    · rcases List.mem_cons.mp h with e | h
      · exact ⟨p, List.mem_cons_self .., e⟩
      · obtain ⟨q, hq, e⟩ := rings_are h
        exact ⟨q, List.mem_cons_of_mem _ hq, e⟩
theorem ringsF_len {ah : Path → Option Path} {n : Nat} : ∀ (ps seen : List Path), (ringsF ah n ps seen).length ≤ ps.length
  | [], _ => Nat.le_refl _
  | p :: ps, seen => by
    unfold ringsF
    split
    · have := ringsF_len (ah := ah) (n := n) ps seen
      rw [List.length_cons]; omega
    · have := ringsF_len (ah := ah) (n := n) ps (seen ++ alongF ah n p)
      rw [List.length_cons, List.length_cons]; omega
theorem round_len (wf : Path → Path) (st : St2) (ring : List Path) (nm : Str) : (roundS wf st ring nm).2.length = st.2.length + 1 + ring.length := by
  unfold roundS
  rw [homes_len, List.length_reverse]
  simp [goS]
theorem SpOk.round {ks : List Path} {mk : Path → Mark} {wk : List Path} {wf : Path → Path} {st : St2} {r0 : Path} {rest : List Path} {nm : Str} (G : SpOk ks mk st.1) (h : ∀ p ∈ r0 :: rest, HomeOk ks mk wk wf p) : SpOk ks mk (roundS wf st (r0 :: rest) nm).1 := by
  have h0 := (h r0 (List.mem_cons_self ..)).k
  exact SpOk.homes (wk := wk) (st := goS st r0 (st.1 r0).1 nm) (G.put (G.dr r0 h0) fun hn => G.fix r0 h0 hn) fun p hp => h p (List.mem_reverse.mp hp)
/-- a new object of a class -/
theorem evp_make {σ : L2.St} {H : Hp} {sp : Sp} {E : XK} {ta : TA} {as : List AS} {C : Addr} {dvs : List V} {Pz : V → Hp → Prop} (h : EvAs ta σ H as)
    (hs : ∀ H1 Hn vs x dx, Ex H H1 → AsOk H1 as vs → H1 x = none → Ex H1 Hn → Hn x = some (.ins C dx []) → ∀ Q : VK, (∀ H2, ExB x Hn H2 → Pz (.ref x) H2 → Q .non H2) → sp (.ref x :: (vs ++ dvs)) Hn Q E) : EvP (tMake C sp dvs E ta) σ H Pz := fun H1 e1 Q q =>
  h H1 e1 _ fun vs H2 e2 p => fun x dx nx ndx nex => by
    have en : Ex H2 (upd (upd H2 dx (.own x)) x (.ins C dx [])) := Ex.mut (Ex.new ndx) nx
    exact hs H2 _ vs x dx (e1.trans e2) p nx en upd_same _ fun H3 x3 hp => ⟨rfl, q _ H3 (e2.trans (x3.anch en nx)) hp⟩
theorem evn_listof {K : PySem.W.Frag} {σ : L2.St} {H : Hp} {te : TE} {ds : List D} (h : EvLs te σ H ds) : EvN (tCB (rListS K) (tCons te tNil)) σ H ds := fun H0 e0 Q q =>
  h H0 e0 _ fun v H1 e1 ⟨a, ev, xs, h1, h2⟩ => by
    subst ev
    exact ⟨a, xs, rfl, .inl (SqL.of h1), fun l hl => q _ _ (e1.trans (Ex.new hl)) ⟨l, rfl, fresh_back (e0.trans e1) hl, xs, upd_same, h2.ex (Ex.new hl)⟩⟩
def spGoneOn (w : World) : Sp := fun vs H Q _ => ∃ (d : Addr) (v u : V) (ks : List Path) (nf : Path → Path) (p pl : Path), vs = [.ref d, v, u] ∧ Fd eP w H d ks (fun q => pk (nf q)) ∧ Rp H v (pk p) ∧ Rp H u (pk pl) ∧ ks.length ≤ 40 ∧ pl.length ≤ 500 ∧ (∀ q ∈ ks, (nf q).length ≤ 500) ∧ RetP (NewFd eP w H ks (fun q => pk (mvP p pl (nf q)))) H Q
def Legal (b : Bool) (ks : List Path) : (Path → Path) → (Path → Mark) → List (Path × Path) → Prop
  | _, _, [] => True
  | nf, mk, m :: ms => ∃ mk', MvOk b (ks.map nf) mk m.1 m.2 mk' ∧ Legal b ks (fun q => mvP m.1 m.2 (nf q)) mk' ms
def walkN (ms : List (Path × Path)) (nf : Path → Path) : Path → Path := ms.foldl (fun nf m q => mvP m.1 m.2 (nf q)) nf
def spDoes (w : World) (C : Addr) : Sp := fun vs H Q _ => ∃ a W Rw b ks mk wk wf ms, vs = [.ref a, .ref W, .ref Rw] ∧ HallAt w C H a b ks mk ∧ LstD H W (wD wk wf) ∧ LstD H Rw (ms.map mvD) ∧ GoodW ks mk wk wf ∧ foundM b (plc wk wf) (sortP (sortP ks)) = [] ∧
  WfH b (sortP ks) mk ∧ Legal b (sortP ks) id mk ms ∧ (∀ p ∈ ks, walkN ms id p = thenP wk wf p) ∧ RetV (.bl true) H Q
section
variable {P : Program} {w : World} {K : PySem.W.Frag} {mg : Str → Option Value} {base : Heap}
theorem ok_gone_on (T : Txt K mg) : FnOk P w K mg base CX0 1 T.gone_on.f T.gone_on.fd ["paths", "path", "place"] (spGoneOn w) := by
  refine T.gone_on.F.ok c_gone_on (fun vs H Q E h => ?_) (fun cdv A outer sh H vs Q E hr h => ?_)
  · obtain ⟨_, _, _, _, _, _, _, rfl, _⟩ := h
    rfl
  · obtain ⟨d, v, u, ks, nf, p, pl, rfl, hd, rv, ru, hfew, hpl, hnl, k⟩ := h
    have hr9 := room9 hr
    refine ⟨_, pss_cons (ps_set (i := 3) c_gone_on.nd rfl (Or.inl rfl) pe_dnewN)
      (pss_cons (ps_for PassesOwn.never rfl (pi_itemsN (pv 0)) (pg_tup rfl (pgs_cons (pg_name (i := 4) c_gone_on.nd rfl (Or.inl rfl)) (pgs_cons (pg_name (i := 5) c_gone_on.nd rfl (Or.inl rfl)) pgs_nil)))
        (pss_cons (ps_dputN hr9 (pv 3) (pv 4) (pv 5))
        (pss_one (ps_if (pt_cmpR (op_eqD hr.units) (pe_slice sl_tupA (pv 5) po_none (po_some (pe_callB call_len_seq (by rfl) T.z_len PySem.boot_len (pa_cons (pv 1) pa_nil)))) (pv 1) (nomark _))
          (pss_one (ps_dputN hr9 (pv 3) (pv 4) (pe_op op_catA (pv 2) (pe_slice sl_tupA (pv 5) (po_some (pe_callB call_len_seq (by rfl) T.z_len PySem.boot_len (pa_cons (pv 1) pa_nil))) po_none)))) pss_nil))))
      (pss_one (ps_ret (pv 3)))), ?_⟩
    have hnd := hd.nodup
    refine q_newD fun fd H1 hf0 e1 ⟨of, hof⟩ => ?_
    obtain ⟨o, ho⟩ := hd.ex e1
    have ndf : d ≠ fd := fun z => by
      obtain ⟨o', ho'⟩ := hd.at
      rw [z, hf0] at ho'
      cases ho'
    refine q_forI (ev_var rfl) ho (fun i σ' H' => (∃ z1 z2, σ' = [some (.ref d), some v, some u, some (.ref fd), z1, z2]) ∧ Kp d H1 H' ∧ Ex H H' ∧ Fd eP w H' fd (ks.take i) (fun q => pk (mvP p pl (nf q))))
      (fun H2 e2 => ⟨⟨_, _, rfl⟩, Kp.of e2, e1.trans e2, (fd_new hof).ex e2⟩) (fun i σ' H' hp => hp.2.1) (fun i t q σ' H' hi rt hp => ?_) (fun σ' H' hp => ?_)
    · obtain ⟨H0', e0', ⟨z1, z2, rfl⟩, kp, e2, hf⟩ := hp
      have hq : q ∈ ks := List.mem_of_getElem? hi
      have hlt : i < ks.length := (List.getElem?_eq_some_iff.mp hi).1
      refine g_two rt fun x y rx ry => ?_
      have e20 := e2.trans e0'
      refine q_putF (E := eP) (p := q) (e := pk (nf q)) (evd_var rfl ry) (ev_var rfl) (evd_var rfl rx) (keyD_pk q) (hf.ex e0') (by rw [List.length_take]; omega) fun H3 e3 hf3 => ?_
      have rx3 := rx.tk e3.2
      have ry3 := ry.tk e3.2
      have e03 : Ex H H3 := R.Ex.mutB e20 hf0 e3
      have kp3 := (kp.ex e0').exb ndf e3
      have step : ∀ (r : Path) H7, Fd eP w H7 fd (kins (ks.take i) q) (fput (fun q => pk (mvP p pl (nf q))) q (pk r)) → r = mvP p pl (nf q) → Fd eP w H7 fd (ks.take (i + 1)) (fun q => pk (mvP p pl (nf q))) := fun r H7 h e => by
        rw [take_snoc hi, ← kins_new (nodup_take_not hnd hi)]
        refine h.congr fun z hz => ?_
        by_cases ez : z = q
        · rw [ez, fput_same, e]
        · rw [fput_ne ez]
      refine s_when (et_test (ev_eqP (evd_pre (evd_var rfl ry3) (evd_var rfl (rv.ex e03))) (evd_var rfl (rv.ex e03)))) (fun hb H4 e4 => ?_) (fun hb H4 e4 => ?_)
      · refine s_putF (E := eP) (p := q) (e := pk (pl ++ (nf q).drop p.length)) (evd_catP (evd_var rfl (ru.ex (e03.trans e4))) (evd_post (evd_var rfl (ry3.ex e4)) (evd_var rfl (rv.ex (e03.trans e4)))) (by omega) (by have := hnl q hq; rw [List.length_drop]; omega)) (ev_var rfl) (evd_var rfl (rx3.ex e4)) (keyD_pk q) (hf3.ex e4) (by have := kins_len (ks.take i) q; rw [List.length_take] at this; omega) fun H5 e5 hf5 => ?_
        refine ⟨⟨_, _, rfl⟩, (kp3.ex e4).exb ndf e5, R.Ex.mutB (e03.trans e4) hf0 e5, step (pl ++ (nf q).drop p.length) H5 ?_ ?_⟩
        · rw [kins_old (mem_kins.mpr (.inl rfl))] at hf5
          refine hf5.congr fun z hz => ?_
          by_cases ez : z = q
          · rw [ez, fput_same, fput_same]
          · rw [fput_ne ez, fput_ne ez, fput_ne ez]
        · unfold mvP
          rw [if_pos (of_decide_eq_true hb)]
      · refine ⟨⟨_, _, rfl⟩, kp3.ex e4, e03.trans e4, step (nf q) H4 (hf3.ex e4) ?_⟩
        unfold mvP
        rw [if_neg (of_decide_eq_false hb)]
    · obtain ⟨⟨z1, z2, rfl⟩, kp, e2, hf⟩ := hp
      rw [List.take_length] at hf
      exact s_retE (evp_ev (P := NewFd eP w H ks (fun q => pk (mvP p pl (nf q)))) (ev_var rfl) fun H6 e6 => ⟨fd, rfl, hf0, hf.ex e6⟩) fun x H6 e6 px => k x H6 (e2.trans e6) px
theorem ok_row_for (T : Txt K mg) : FnOk P w K mg base CX0 12 T.row_for.f T.row_for.fd ["hall", "wishes"] (spRowFor w T.CH) := by
  refine T.row_for.F.ok c_row_for (fun vs H Q E h => ?_) (fun cdv A outer sh H vs Q E hr h => ?_)
  · obtain ⟨_, _, _, _, _, _, _, _, rfl, _⟩ := h
    rfl
  · obtain ⟨a, W, b, ks, mk, wk, wf, n, rfl, hH, hW, G, hn, hok, k⟩ := h
    refine ⟨_, pss_cons (ps_set (i := 2) c_row_for.nd rfl (Or.inl rfl) (pe_make T.mSi (ok_Si T) (hr.mono (by decide)) rfl T.gS T.bSi .nil pass0 (pa_cons (pv 0) (pa_cons (pv 1) pa_nil))))
      (pss_cons (ps_for PassesOwn.never rfl (pi_list (pe_call (ok_chains T) (hr.mono (by decide)) rfl T.chains.g T.chains.F.kp T.chains.b .nil pass0 (pa_cons (pv 0) (pa_cons (pv 1) pa_nil)))) (pg_name (i := 3) c_row_for.nd rfl (Or.inl rfl))
        (pss_one (ps_for PassesOwn.never rfl (pi_reversed (by rfl) T.z_reversed (pa_cons (pv 3) pa_nil)) (pg_name (i := 4) c_row_for.nd rfl (Or.inl rfl)) (pss_one (ps_expr (pe_meth (pv 2) T.clS T.S_go_home.m (ok_go_home T) (hr.mono (by decide)) T.S_go_home.b .nil pass0 (pa_cons (pv 4) pa_nil)))))))
      (pss_cons (ps_for PassesOwn.never rfl (pi_list (pe_call (ok_rings T) (hr.mono (by decide)) rfl T.rings.g T.rings.F.kp T.rings.b .nil pass0 (pa_cons (pv 0) (pa_cons (pv 1) pa_nil)))) (pg_name (i := 5) c_row_for.nd rfl (Or.inl rfl))
        (pss_one (ps_expr (pe_meth (pv 2) T.clS T.S_go_round.m (ok_go_round T) hr T.S_go_round.b .nil pass0 (pa_cons (pv 5) pa_nil)))))
      (pss_one (ps_ret (pe_callTy call_list_of (by rfl) T.z_list (by decide +kernel) (pa_cons (pe_fld (pv 2) rfl) pa_nil)))))), ?_⟩
    have mfew := hok.few
    have hmem : ∀ p ∈ movers wk wf, HomeOk (sortP ks) mk wk wf p := fun p hp => G.home (movers_sub hp).1
    have hcs : ∀ c ∈ chainsM (movers wk wf) (ahW b ks wk wf) n, (∀ p ∈ c, HomeOk (sortP ks) mk wk wf p) ∧ c.length ≤ 51 := fun c hc => by
      obtain ⟨f, hf, rfl⟩ := List.mem_map.mp hc
      exact ⟨fun p hp => hmem p (hok.mem (firsts_mem hf) p hp), along_len _ hok.nn f⟩
    have hrs : ∀ c ∈ ringsM (movers wk wf) (ahW b ks wk wf) n, ∃ r0 rest, c = r0 :: rest ∧ (∀ p ∈ c, HomeOk (sortP ks) mk wk wf p) ∧ c.length ≤ 51 := fun c hc => by
      obtain ⟨p, hp, rfl⟩ := rings_are hc
      exact ⟨p, _, rfl, fun q hq => hmem q (hok.mem (mem_sortP.mp hp) q hq), along_len _ hok.nn p⟩
    have clen : (chainsM (movers wk wf) (ahW b ks wk wf) n).length ≤ 40 := by
      unfold chainsM
      rw [List.length_map]
      exact Nat.le_trans (firsts_len _ _) mfew
    have rlen : (ringsM (movers wk wf) (ahW b ks wk wf) n).length ≤ 40 := Nat.le_trans (ringsF_len _ _) (by rw [sortP_len]; exact mfew)
    refine q_asgP (evp_make (as := [.v (.ref a), .v (.ref W)]) (Pz := fun v H' => ∃ s P S M, v = .ref s ∧ H P = none ∧ H S = none ∧ H M = none ∧ SortAt w T.CS H' s P S M b wk wf (sortP ks) st0.1 st0.2) (eas_v (ev_var rfl) (eas_v (ev_var rfl) eas_nil)) fun H1 Hn vs x dx e1 ha nx en hx Q' q => ?_) fun vs H1 e1 ⟨s, P, S, M, evs, hP0, hS0, hM0, hS⟩ => ?_
    · obtain ⟨_, _, rfl, rfl, rfl⟩ := two_args ha
      exact ⟨x, a, W, b, ks, mk, wk, wf, dx, rfl, hx, hH.ex (e1.trans en), hW.ex (e1.trans en), G, fun H' P S M x' hP hS hM hSo => q H' x' ⟨x, P, S, M, rfl, fresh_back (e1.trans en) hP, fresh_back (e1.trans en) hS, fresh_back (e1.trans en) hM, hSo⟩⟩
    subst evs
    have args : ∀ {H'}, Ex H H' → HallAt w T.CH H' a b ks mk ∧ LstD H' W (wD wk wf) := fun e => ⟨hH.ex e, hW.ex e⟩
    refine q_forLL (dss := llD (chainsM (movers wk wf) (ahW b ks wk wf) n)) (evp_call (as := [.v (.ref a), .v (.ref W)]) (P := NewLL H1 (llD (chainsM (movers wk wf) (ahW b ks wk wf) n))) (eas_v (ev_var rfl) (eas_v (ev_var rfl) eas_nil)) fun H2 vs e2 ha Q' q => ?_)
      (fun L H2 i σ' H' => (∃ z1 z2, σ' = [some (.ref a), some (.ref W), some (.ref s), z1, z2, none]) ∧ ExS S M H2 H' ∧ Ex H H' ∧ SortAt w T.CS H' s P S M b wk wf (sortP ks) (chS wf ((chainsM (movers wk wf) (ahW b ks wk wf) n).take i) st0).1 (chS wf ((chainsM (movers wk wf) (ahW b ks wk wf) n).take i) st0).2)
      (fun L H2 e2 hL => ⟨⟨_, _, rfl⟩, ExS.of (Ex.refl _), e1.trans e2, hS.ex e2⟩)
      (fun L H2 i σ' H' hp p xs hp0 hpx => hp.2.1.1 _ _ (fun z => ?_) (fun z => ?_) hpx) (fun L H2 i σ' H' hp => hp.2.1.2) (fun L H2 i Lc ds σ' H' e2 hi hLc hL0 hp => ?_) (fun L H2 σ' H' e2 hp => ?_)
    · obtain ⟨_, _, rfl, rfl, rfl⟩ := two_args ha
      obtain ⟨h1, h2⟩ := args (e1.trans e2)
      exact ⟨a, W, b, ks, mk, wk, wf, n, rfl, h1, h2, G, hn, hok, fun v H3 e3 ⟨p, ev, hp0, xs, k1, k2, k3⟩ => q v H3 e3 ⟨p, ev, fresh_back e2 hp0, xs, k1, k2, fun z hz => fresh_back e2 (k3 z hz)⟩⟩
    · obtain ⟨o, ho⟩ := hS.sp.at
      rw [← z, hp0] at ho
      cases ho
    · obtain ⟨o, ho⟩ := hS.mv.some
      rw [← z, hp0] at ho
      cases ho
    · obtain ⟨⟨z1, z2, rfl⟩, x2, e02, hS2⟩ := hp
      unfold llD at hi
      rw [List.getElem?_map] at hi
      cases hc : (chainsM (movers wk wf) (ahW b ks wk wf) n)[i]? with
      | none => rw [hc] at hi; cases hi
      | some c =>
      rw [hc] at hi
      cases hi
      have hcm := List.mem_of_getElem? hc
      have hilt : i < (chainsM (movers wk wf) (ahW b ks wk wf) n).length := (List.getElem?_eq_some_iff.mp hc).1
      have hct := hcs c hcm
      have Gi : SpOk (sortP ks) mk (chS wf ((chainsM (movers wk wf) (ahW b ks wk wf) n).take i) st0).1 := SpOk.chs (wk := wk) G.sp fun c' hc' => (hcs c' (List.mem_of_mem_take hc')).1
      have li := chs_len (wf := wf) (cs := (chainsM (movers wk wf) (ahW b ks wk wf) n).take i) (st := st0) fun c' hc' => (hcs c' (List.mem_of_mem_take hc')).2
      have l0 : st0.2.length = 0 := rfl
      rw [List.length_take] at li
      have nLS : Lc ≠ S := fun z => by
        obtain ⟨o, ho⟩ := hS2.sp.at
        exact lst_no (z ▸ hLc) ho
      have nLM : Lc ≠ M := fun z => by
        obtain ⟨o, ho⟩ := hS.mv.some
        rw [← z, hL0] at ho
        cases ho
      refine s_forRev (ea_cons (ev_var rfl) ea_nil) hLc (fun j σ' H'' => (∃ z, σ' = [some (.ref a), some (.ref W), some (.ref s), some (.ref Lc), z, none]) ∧ ExS S M H' H'' ∧ Ex H H'' ∧ SortAt w T.CS H'' s P S M b wk wf (sortP ks) ((c.reverse.take j).foldl (homeS wf) (chS wf ((chainsM (movers wk wf) (ahW b ks wk wf) n).take i) st0)).1 ((c.reverse.take j).foldl (homeS wf) (chS wf ((chainsM (movers wk wf) (ahW b ks wk wf) n).take i) st0)).2)
        (fun H7 e7 => ⟨⟨_, rfl⟩, ExS.of e7, e02.trans e7, hS2.ex e7⟩) (fun j σ' H'' hp => ⟨hp.2.1.2, fun o ho => hp.2.1.1 _ _ nLS nLM ho⟩) (fun j v p σ' H'' hj rv hp => ?_) (fun σ' H'' hp => ?_)
      · obtain ⟨⟨z, rfl⟩, x7, e07, hS7⟩ := hp
        obtain ⟨dx', hs7⟩ := hS7.it
        have hp := hct.1 p (List.mem_reverse.mp (List.mem_of_getElem? hj))
        have Gj := SpOk.homes (wk := wk) (ps := c.reverse.take j) Gi fun q hq => hct.1 q (List.mem_reverse.mp (List.mem_of_mem_take hq))
        refine s_dropM (as := [.d (pk p)]) (ev_var rfl) hs7 rfl (eas_d (evd_var rfl rv) eas_nil) fun H8 vs e8 ha => ?_
        obtain ⟨_, rfl, a1⟩ := one_arg ha
        refine ⟨s, _, P, S, M, b, wk, wf, sortP ks, mk, _, _, p, rfl, hS7.ex e8, Gj, a1, hp.k, hp.w, hp.ne, hp.dr, ?_, fun H9 x9 hS9 => ⟨⟨_, rfl⟩, (x7.trans (ExS.of e8)).trans x9, ExS.anch (e07.trans e8) hS0 hM0 x9, ?_⟩⟩
        · have h1 := homes_len wf (c.reverse.take j) (chS wf ((chainsM (movers wk wf) (ahW b ks wk wf) n).take i) st0)
          have h3 : (c.reverse.take j).length ≤ 51 := by rw [List.length_take, List.length_reverse]; have := hct.2; omega
          omega
        · rw [take_snoc hj, List.foldl_append]
          exact hS9
      · obtain ⟨⟨z, rfl⟩, x7, e07, hS7⟩ := hp
        have hct2 : c.reverse.take c.length = c.reverse := List.take_of_length_le (by rw [List.length_reverse]; exact Nat.le_refl _)
        rw [hct2] at hS7
        refine ⟨⟨_, _, rfl⟩, x2.trans x7, e07, ?_⟩
        rw [take_snoc hc]
        unfold chS
        rw [List.foldl_append]
        exact hS7
    · obtain ⟨⟨z1, z2, rfl⟩, x2, e02, hS2⟩ := hp
      have hl : (llD (chainsM (movers wk wf) (ahW b ks wk wf) n)).length = (chainsM (movers wk wf) (ahW b ks wk wf) n).length := by unfold llD; rw [List.length_map]
      rw [hl, List.take_length] at hS2
      have lc := chs_len (wf := wf) (cs := chainsM (movers wk wf) (ahW b ks wk wf) n) (st := st0) fun c' hc' => (hcs c' hc').2
      have l0 : st0.2.length = 0 := rfl
      have Gc : SpOk (sortP ks) mk (chS wf (chainsM (movers wk wf) (ahW b ks wk wf) n) st0).1 := SpOk.chs (wk := wk) G.sp fun c' hc' => (hcs c' hc').1
      refine q_forLL (dss := llD (ringsM (movers wk wf) (ahW b ks wk wf) n)) (evp_call (as := [.v (.ref a), .v (.ref W)]) (P := NewLL H' (llD (ringsM (movers wk wf) (ahW b ks wk wf) n))) (eas_v (ev_var rfl) (eas_v (ev_var rfl) eas_nil)) fun H3 vs e3 ha Q' q => ?_)
        (fun L H3 i σ' H4 => (∃ z3, σ' = [some (.ref a), some (.ref W), some (.ref s), z1, z2, z3]) ∧ ExS S M H3 H4 ∧ Ex H H4 ∧ ∃ st, RingsRun b (sortP ks) wf ((ringsM (movers wk wf) (ahW b ks wk wf) n).take i) (chS wf (chainsM (movers wk wf) (ahW b ks wk wf) n) st0) st ∧ SpOk (sortP ks) mk st.1 ∧ st.2.length ≤ 2100 + i * 60 ∧ SortAt w T.CS H4 s P S M b wk wf (sortP ks) st.1 st.2)
        (fun L H3 e3 hL => ⟨⟨_, rfl⟩, ExS.of (Ex.refl _), e02.trans e3, _, .nil _, Gc, by omega, hS2.ex e3⟩)
        (fun L H3 i σ' H4 hp p xs hp0 hpx => hp.2.1.1 _ _ (fun z => ?_) (fun z => ?_) hpx) (fun L H3 i σ' H4 hp => hp.2.1.2) (fun L H3 i Lr ds σ' H4 e3 hi hLr hL0 hp => ?_) (fun L H3 σ' H4 e3 hp => ?_)
      · obtain ⟨_, _, rfl, rfl, rfl⟩ := two_args ha
        obtain ⟨h1, h2⟩ := args (e02.trans e3)
        exact ⟨a, W, b, ks, mk, wk, wf, n, rfl, h1, h2, G, hn, hok, fun v H5 e5 ⟨p, ev, hp0, xs, k1, k2, k3⟩ => q v H5 e5 ⟨p, ev, fresh_back e3 hp0, xs, k1, k2, fun z hz => fresh_back e3 (k3 z hz)⟩⟩
      · obtain ⟨o, ho⟩ := hS2.sp.at
        rw [← z, hp0] at ho
        cases ho
      · obtain ⟨o, ho⟩ := hS2.mv.some
        rw [← z, hp0] at ho
        cases ho
      · obtain ⟨⟨z3, rfl⟩, x4, e04, st, hrun, Gs, hlen, hS4⟩ := hp
        unfold llD at hi
        rw [List.getElem?_map] at hi
        cases hc : (ringsM (movers wk wf) (ahW b ks wk wf) n)[i]? with
        | none => rw [hc] at hi; cases hi
        | some c =>
        rw [hc] at hi
        cases hi
        have hilt : i < (ringsM (movers wk wf) (ahW b ks wk wf) n).length := (List.getElem?_eq_some_iff.mp hc).1
        obtain ⟨r0, rest, rfl, hho, hcl⟩ := hrs c (List.mem_of_getElem? hc)
        have nLM : Lr ≠ M := fun z => by
          obtain ⟨o, ho⟩ := hS2.mv.some
          rw [← z, hL0] at ho
          cases ho
        obtain ⟨dx', hs4⟩ := hS4.it
        refine s_dropM (as := [.v (.ref Lr)]) (ev_var rfl) hs4 rfl (eas_v (ev_var rfl) eas_nil) fun H8 vs e8 ha => ?_
        obtain ⟨_, rfl, rfl⟩ := one_arg ha
        rw [List.length_cons] at hcl
        refine ⟨s, Lr, P, S, M, b, wk, wf, sortP ks, mk, st.1, st.2, r0, rest, rfl, hS4.ex e8, Gs, hLr.ex e8, nLM, hho, by omega, by omega, fun H9 nm hnm x9 hS9 => ⟨⟨_, rfl⟩, (x4.trans (ExS.of e8)).trans x9, ExS.anch (e04.trans e8) hS0 hM0 x9, roundS wf st (r0 :: rest) nm, ?_, SpOk.round (wk := wk) Gs hho, ?_, hS9⟩⟩
        · rw [take_snoc hc]
          exact hrun.snoc hnm
        · rw [round_len, List.length_cons]
          omega
      · obtain ⟨⟨z3, rfl⟩, x4, e04, st, hrun, Gs, hlen, hS4⟩ := hp
        have hl2 : (llD (ringsM (movers wk wf) (ahW b ks wk wf) n)).length = (ringsM (movers wk wf) (ahW b ks wk wf) n).length := by unfold llD; rw [List.length_map]
        rw [hl2, List.take_length] at hrun
        obtain ⟨dx', hs4⟩ := hS4.it
        exact s_retP (evn_listof (evl_ev (ev_fld (ev_var rfl) hs4 T.clS T.nS_moves rfl) hS4.mv)) fun v H5 e5 ⟨q, ev, h0, hL⟩ => k v H5 (e04.trans e5) ⟨st.2, ⟨st.1, hrun⟩, q, ev, fresh_back e04 h0, hL⟩
end
end R
/-! W15: whether a row does the wishes -/
namespace R
open PySem L2 Evl
theorem walkN_snoc (ms : List (Path × Path)) (m : Path × Path) (nf : Path → Path) (q : Path) : walkN (ms ++ [m]) nf q = mvP m.1 m.2 (walkN ms nf q) := by
  unfold walkN
  rw [List.foldl_append]
  rfl
theorem look_map {f : Path → D} : ∀ {ks : List Path} {p : Path}, p ∈ ks → (ks.map fun q => (eP.e q, f q)).lookup (eP.e p) = some (f p)
  | a :: ks, p, h => by
    rw [List.map_cons, List.lookup_cons]
    by_cases e : p = a
    · subst e
      simp
    · have : (eP.e p == eP.e a) = false := by
        rw [beq_eq_false_iff_ne]
        exact fun z => e (pk_inj z)
      rw [this]
      exact look_map ((List.mem_cons.mp h).resolve_left e)
/-- a new object of a class, its arguments told by what holds of them -/
theorem evp_makeP {σ : L2.St} {H : Hp} {sp : Sp} {E : XK} {ta : TA} {Ps : List (V → Hp → Prop)} {C : Addr} {dvs : List V} {Pz : V → Hp → Prop} (h : EvPs ta σ H Ps)
    (hs : ∀ H1 Hn vs x dx, Ex H H1 → PsOk H1 Ps vs → H1 x = none → Ex H1 Hn → Hn x = some (.ins C dx []) → ∀ Q : VK, (∀ H2, ExB x Hn H2 → Pz (.ref x) H2 → Q .non H2) → sp (.ref x :: (vs ++ dvs)) Hn Q E) : EvP (tMake C sp dvs E ta) σ H Pz := fun H1 e1 Q q =>
  h H1 e1 _ fun vs H2 e2 p => fun x dx nx ndx nex => by
    have en : Ex H2 (upd (upd H2 dx (.own x)) x (.ins C dx [])) := Ex.mut (Ex.new ndx) nx
    exact hs H2 _ vs x dx (e1.trans e2) p nx en upd_same _ fun H3 x3 hp => ⟨rfl, q _ H3 (e2.trans (x3.anch en nx)) hp⟩
section
variable {P : Program} {w : World} {K : PySem.W.Frag} {mg : Str → Option Value} {base : Heap}
theorem ok_does (T : Txt K mg) : FnOk P w K mg base CX0 10 T.does.f T.does.fd ["hall", "wishes", "row"] (spDoes w T.CH) := by
  refine T.does.F.ok c_does (fun vs H Q E h => ?_) (fun cdv A outer sh H vs Q E hr h => ?_)
  · obtain ⟨_, _, _, _, _, _, _, _, _, rfl, _⟩ := h
    rfl
  · obtain ⟨a, W, Rw, b, ks, mk, wk, wf, ms, rfl, hH, hW, hR, G, hn, hWf, hLeg, hend, k⟩ := h
    have hr9 := room9 hr
    refine ⟨_, pss_cons (ps_expr (pe_call (ok_ask_wishes T) (hr.mono (by decide)) rfl T.ask_wishes.g T.ask_wishes.F.kp T.ask_wishes.b .nil pass0 (pa_cons (pv 0) (pa_cons (pv 1) pa_nil))))
      (pss_cons (ps_set (i := 3) c_does.nd rfl (Or.inl rfl) (pe_call (ok_paths_then T) hr rfl T.paths_then.g T.paths_then.F.kp T.paths_then.b .nil pass0 (pa_cons (pv 0) (pa_cons (pv 1) pa_nil))))
      (pss_cons (ps_set (i := 4) c_does.nd rfl (Or.inl rfl) pe_dnewN)
      (pss_cons (ps_for PassesOwn.never rfl (pi_keysN (pv 3)) (pg_name (i := 5) c_does.nd rfl (Or.inl rfl)) (pss_one (ps_dputN hr9 (pv 4) (pv 5) (pv 5))))
      (pss_cons (ps_set (i := 6) c_does.nd rfl (Or.inl rfl) (pe_make T.mHi (ok_Hi T) (hr.mono (by decide)) rfl T.gH T.bHi .nil pass0 (pa_cons (pe_meth0 (pv 0) T.clH T.H_rows.m (ok_rows T) (hr.mono (by decide)) T.H_rows.b .nil pass0) (pa_cons (pe_meth0 (pv 0) T.clH T.H_is_blind.m (ok_is_blind T) (hr.mono (by decide)) T.H_is_blind.b .nil pass0) pa_nil))))
      (pss_cons (ps_try_only (tb := fun _ => tFor (iList K (tVar 2)) (gTup K 2 (gCons (gName 7) (gCons (gName 8) gNil))) (tSeq (tDrop (tMeth T.CH "move" (spMove w T.CH) [] E0 (tVar 6) (tCons (tVar 7) (tCons (tVar 8) tNil)))) (tAsg (tCall (spGoneOn w) [] E0 (tCons (tVar 4) (tCons (tVar 7) (tCons (tVar 8) tNil)))) (gName 4)))) rfl rfl ⟨rfl, by decide, .inl T.gE⟩ takes0
        (fun W pn xe tk po => pss_one (ps_for po rfl (pi_list (pv 2)) (pg_tup rfl (pgs_cons (pg_name (i := 7) c_does.nd rfl (Or.inl rfl)) (pgs_cons (pg_name (i := 8) c_does.nd rfl (Or.inl rfl)) pgs_nil)))
          (pss_cons (ps_expr (pe_meth (pv 6) T.clH T.H_move.m (ok_move T) (by exact hr.mono (by decide)) T.H_move.b .nil pass0 (pa_cons (pv 7) (pa_cons (pv 8) pa_nil))))
          (pss_one (ps_set (i := 4) c_does.nd rfl (Or.inl rfl) (pe_call (ok_gone_on T) (by exact hr.mono (by decide)) rfl T.gone_on.g T.gone_on.F.kp T.gone_on.b .nil pass0 (pa_cons (pv 4) (pa_cons (pv 7) (pa_cons (pv 8) pa_nil)))))))))
        (fun a oe cls d pn _ _ => pss_one (ps_ret pe_bl)))
      (pss_one (ps_ret (pe_cmpR (op_eqDicts hr9) (pv 4) (pv 3) (nomark _))))))))), ?_⟩
    obtain ⟨dx, m, hA, hm⟩ := id hH
    have kfew := G.few
    have slen := sortP_len ks
    have snd := sortP_nodup hm.nodup
    refine q_drop (ev_of (evp_call (as := [.v (.ref a), .v (.ref W)]) (P := fun x _ => x = V.bl true) (eas_v (ev_var rfl) (eas_v (ev_var rfl) eas_nil)) fun H1 vs e1 ha Q' q => ?_)) fun H1 e1 => ?_
    · obtain ⟨_, _, rfl, rfl, rfl⟩ := two_args ha
      exact ⟨a, W, b, ks, mk, wk, wf, rfl, hH.ex e1, hW.ex e1, G, hn, fun H2 e2 => q _ H2 e2 rfl⟩
    refine q_asgP (evp_call (as := [.v (.ref a), .v (.ref W)]) (P := NewFd eP w H (sortP ks) (fun p => pk (thenP wk wf p))) (eas_v (ev_var rfl) (eas_v (ev_var rfl) eas_nil)) fun H2 vs e2 ha Q' q => ?_) fun vp H2 e2 ⟨ud, evp, hu0, hud⟩ => ?_
    · obtain ⟨_, _, rfl, rfl, rfl⟩ := two_args ha
      exact ⟨a, W, b, ks, mk, wk, wf, rfl, hH.ex (e1.trans e2), hW.ex (e1.trans e2), G, fun v H3 e3 ⟨p, h1, h0, h2⟩ => q v H3 e3 ⟨p, h1, fresh_back (e1.trans e2) h0, h2⟩⟩
    subst evp
    have e12 := e1.trans e2
    refine q_newD fun pd H3 hp0 e3 ⟨op, hop⟩ => ?_
    have e13 := e12.trans e3
    have hpH : H pd = none := fresh_back e12 hp0
    have nup : ud ≠ pd := fun z => by
      obtain ⟨o, ho⟩ := hud.at
      rw [z, hp0] at ho
      cases ho
    obtain ⟨ou, hou⟩ := hud.ex e3
    obtain ⟨gu, hgu, _⟩ := id hou
    refine q_forK (ev_var rfl) hgu (fun i σ' H' => (∃ z, σ' = [some (.ref a), some (.ref W), some (.ref Rw), some (.ref ud), some (.ref pd), z, none, none, none]) ∧ Kp ud H3 H' ∧ Ex H H' ∧ Fd eP w H' pd ((sortP ks).take i) pk)
      (fun H4 e4 => ⟨⟨_, rfl⟩, Kp.of e4, e13.trans e4, (fd_new hop).ex e4⟩) (fun i σ' H' hp => hp.2.1) (fun i v p σ' H' hi rv hp => ?_) (fun σ' H' hp => ?_)
    · obtain ⟨⟨z, rfl⟩, kp, e4, hf⟩ := hp
      refine s_putF (E := eP) (p := p) (evd_var rfl rv) (ev_var rfl) (evd_var rfl rv) (keyD_pk p) hf (by rw [List.length_take]; omega) fun H5 e5 hf5 => ?_
      refine ⟨⟨_, rfl⟩, kp.exb nup e5, R.Ex.mutB e4 hpH e5, ?_⟩
      rw [take_snoc hi, ← kins_new (nodup_take_not snd hi)]
      refine hf5.congr fun q hq => ?_
      by_cases e : q = p
      · rw [e, fput_same]
        rfl
      · rw [fput_ne e]
    obtain ⟨⟨z5, rfl⟩, kp, e4, hpd⟩ := hp
    rw [List.take_length] at hpd
    have hou4 : FnO eP w H' ud ou (sortP ks) (fun p => pk (thenP wk wf p)) := hou.tk kp.1 kp.2
    refine q_asgP (evp_makeP (Ps := [IsL (rowsD (sortP ks) mk), fun x _ => x = V.bl b]) (Pz := fun v H'' => ∃ c, v = .ref c ∧ H' c = none ∧ HallAt w T.CH H'' c b (sortP ks) mk)
      (eps_cons (evp_meth (as := []) (P := IsL (rowsD (sortP ks) mk)) (ev_var rfl) (e4 _ _ hA) rfl eas_nil fun H5 vs e5 ha Q' q => ?_) (up_l _) (eps_cons (evp_meth (as := []) (P := fun x _ => x = V.bl b) (ev_var rfl) (e4 _ _ hA) rfl eas_nil fun H5 vs e5 ha Q' q => ?_) (fun _ _ _ _ h => h) eps_nil)) fun H5 Hn vs x dx' e5 ha nx en hx Q' q => ?_) fun vc H5 e5 ⟨c, evc, hc0, hC⟩ => ?_
    · cases ha
      exact ⟨a, b, ks, mk, rfl, hH.ex (e4.trans e5), G.kne, by omega, fun v H6 e6 ⟨p, h1, _, h2⟩ => q v H6 e6 ⟨p, h1, h2⟩⟩
    · cases ha
      exact ⟨a, b, ks, mk, rfl, hH.ex (e4.trans e5), fun H6 e6 => q _ H6 e6 rfl⟩
    · cases ha with
      | cons r1 ha =>
      cases ha with
      | cons r2 ha =>
      cases ha
      obtain ⟨L, rfl, hL⟩ := r1
      subst r2
      exact ⟨x, L, b, sortP ks, mk, dx', rfl, hx, hL.ex en, hWf, fun H6 x6 hC => q H6 x6 ⟨x, rfl, fresh_back e5 nx, hC⟩⟩
    subst evc
    have e05 := e4.trans e5
    have hcH : H c = none := fresh_back e4 hc0
    have nRc : Rw ≠ c := fun z => by obtain ⟨o, ho⟩ := hR.some; rw [z, hcH] at ho; cases ho
    have nuc : ud ≠ c := fun z => by rw [z] at hou4; rw [hou4.choose_spec.1.1] at hc0; cases hc0
    show tSeq (tFor _ _ _) _ _ _ _
    refine q_forD (ev_var rfl) (hR.ex e05) (fun i σ' H6 => (∃ z1 z2 z3 pc, σ' = [some (.ref a), some (.ref W), some (.ref Rw), some (.ref ud), some (.ref pc), z1, some (.ref c), z2, z3] ∧ Fd eP w H6 pc (sortP ks) (fun q => pk (walkN (ms.take i) id q))) ∧ Kp Rw H5 H6 ∧ Ex H H6 ∧ Fd eP w H6 ud (sortP ks) (fun p => pk (thenP wk wf p)) ∧ ∃ mkc, HallAt w T.CH H6 c b ((sortP ks).map (walkN (ms.take i) id)) mkc ∧ Legal b (sortP ks) (walkN (ms.take i) id) mkc (ms.drop i))
      (fun H6 e6 => ⟨⟨_, _, _, pd, rfl, hpd.ex (e5.trans e6)⟩, Kp.of e6, e05.trans e6, Fd.ex (e5.trans e6) ⟨ou, hou4⟩, mk, by rw [List.take_zero]; show HallAt w T.CH H6 c b ((sortP ks).map fun x => x) mk; rw [List.map_id']; exact hC.ex e6, hLeg⟩) (fun i σ' H6 hp => hp.2.1) (fun i v d σ' H6 hi rv hp => ?_) (fun σ' H6 hp => ?_)
    · obtain ⟨⟨z1, z2, z3, pc, rfl, hpc⟩, kp6, e6, hud6, mkc, hC6, hL6⟩ := hp
      rw [List.getElem?_map] at hi
      cases hm' : ms[i]? with
      | none => rw [hm'] at hi; cases hi
      | some mv =>
      rw [hm'] at hi
      cases hi
      have hlt : i < ms.length := (List.getElem?_eq_some_iff.mp hm').1
      have hdrop : ms.drop i = mv :: ms.drop (i + 1) := by
        rw [List.drop_eq_getElem_cons hlt]
        rw [(List.getElem?_eq_some_iff.mp hm').2]
      rw [hdrop] at hL6
      obtain ⟨mk', hM, hL7⟩ := hL6
      refine g_two rv fun vp vq rp rq => ?_
      obtain ⟨dc, mc, hC7, hmc⟩ := id hC6
      refine q_dropM (as := [.d (pk mv.1), .d (pk mv.2)]) (ev_var rfl) hC7 rfl (eas_d (evd_var rfl rp) (eas_d (evd_var rfl rq) eas_nil)) fun H7 vs e7 ha => ?_
      obtain ⟨_, _, rfl, a1, a2⟩ := two_args ha
      refine ⟨c, _, _, b, _, mkc, mv.1, mv.2, mk', rfl, hC6.ex e7, a1, a2, hM, fun H8 x8 hC8 => ?_⟩
      have e68 : Ex H H8 := R.Ex.mutB (e6.trans e7) hcH x8
      have npc : pc ≠ c := fun z => by
        obtain ⟨o, ho⟩ := hpc.at
        rw [z, hC7] at ho
        cases ho
      have hpc8 := (hpc.ex e7).exb x8 npc
      refine s_asgP (evp_call (as := [.v (.ref pc), .d (pk mv.1), .d (pk mv.2)]) (P := NewFd eP w H8 (sortP ks) (fun q => pk (mvP mv.1 mv.2 (walkN (ms.take i) id q)))) (eas_v (ev_var rfl) (eas_d (evd_var rfl ((rp.ex e7).tk x8.2)) (eas_d (evd_var rfl ((rq.ex e7).tk x8.2)) eas_nil))) fun H9 vs e9 ha Q' q => ?_) fun vn H9 e9 ⟨pn, evn, hn0, hpn⟩ => ?_
      · obtain ⟨_, _, _, rfl, rfl, a2, a3⟩ := three_args ha
        exact ⟨pc, _, _, sortP ks, walkN (ms.take i) id, mv.1, mv.2, rfl, hpc8.ex e9, a2, a3, by omega, hM.pll, fun q hq => hM.len _ (List.mem_map.mpr ⟨q, hq, rfl⟩), fun v H10 e10 ⟨p, h1, h0, h2⟩ => q v H10 e10 ⟨p, h1, fresh_back e9 h0, h2⟩⟩
      subst evn
      have hw : (fun q => mvP mv.1 mv.2 (walkN (ms.take i) id q)) = walkN (ms.take (i + 1)) id := by
        funext q
        rw [take_snoc hm', walkN_snoc]
      refine ⟨⟨_, _, _, pn, rfl, hpn.congr fun q hq => by rw [take_snoc hm', walkN_snoc]⟩, ((kp6.ex e7).exb nRc x8).ex e9, e68.trans e9, ((hud6.ex e7).exb x8 nuc).ex e9, mk', ?_, ?_⟩
      · rw [← hw]
        rw [List.map_map] at hC8
        exact hC8.ex e9
      · rw [← hw]
        exact hL7
    · obtain ⟨⟨z1, z2, z3, pc, rfl, hpc⟩, kp6, e6, hud6, _⟩ := hp
      rw [List.length_map, List.take_length] at hpc
      refine s_ret (ev_op (ev_var rfl) (ev_var rfl) fun H7 e7 Q' q => ?_) fun H7 e7 => k _ (e6.trans e7)
      obtain ⟨o1, h1⟩ := hpc.ex e7
      obtain ⟨o2, h2⟩ := hud6.ex e7
      refine ⟨pc, ud, _, _, rfl, rfl, ⟨o1, fn_dat h1⟩, ⟨o2, fn_dat h2⟩, by rw [List.length_map, List.length_map], fun p hp => ?_, q H7 (Ex.refl _)⟩
      obtain ⟨x, hx, rfl⟩ := List.mem_map.mp hp
      show _ = some (pk (walkN ms id x)) ∧ (pk (walkN ms id x)).depth ≤ 8
      rw [hend x (mem_sortP.mp hx)]
      exact ⟨look_map hx, pk_le8 _⟩
end
end R
/-! W16: the law's feed: drawing -/
namespace R
open PySem L2 Evl
/-- the feed: a list of the script's list, a count, a left number -/
def FeedAt (H : Hp) (F L : Addr) : Prop := (∃ c g : Int, H F = some (.lst [.ref L, .int c, .int g])) ∧ (∃ ns : List Int, LstD H L (ns.map .num)) ∧ L ≠ F
/-- a function that draws: all but the feed is as it was -/
def RetF (F L : Addr) (P : V → Hp → Prop) (H : Hp) (Q : VK) : Prop := ∀ v H2, ExB F H H2 → FeedAt H2 F L → P v H2 → Q v H2
def EvF (F L : Addr) (te : TE) (σ : L2.St) (H : Hp) (P : V → Hp → Prop) : Prop := ∀ H1, ExB F H H1 → FeedAt H1 F L → ∀ Q : VK, (∀ v H2, ExB F H1 H2 → FeedAt H2 F L → P v H2 → Q v H2) → te σ H1 Q
def UpF (F : Addr) (P : V → Hp → Prop) : Prop := ∀ v H H', ExB F H H' → P v H → P v H'
section
variable {F L : Addr} {K : PySem.W.Frag} {σ : L2.St} {H H' H1 : Hp} {ta tb te : TE} {P P' P2 S : V → Hp → Prop} {x y z v : V} {r : R2} {d : D} {i : Int} {N : Ends} {tz : TS}
theorem FeedAt.ex (e : Ex H H') (h : FeedAt H F L) : FeedAt H' F L := let ⟨⟨c, g, h1⟩, ⟨ns, h2⟩, h3⟩ := h; ⟨⟨c, g, e _ _ h1⟩, ⟨ns, h2.ex e⟩, h3⟩
theorem FeedAt.exb {b : Addr} (e : ExB b H H') (hF : F ≠ b) (hL : L ≠ b) (h : FeedAt H F L) : FeedAt H' F L := let ⟨⟨c, g, h1⟩, ⟨ns, h2⟩, h3⟩ := h; ⟨⟨c, g, e.1 _ _ hF h1⟩, ⟨ns, h2.exb e hL⟩, h3⟩
theorem FeedAt.at1 (h : FeedAt H F L) : ∃ o, H F = some o := let ⟨⟨c, g, h1⟩, _, _⟩ := h; ⟨_, h1⟩
theorem FeedAt.atL (h : FeedAt H F L) : ∃ o, H L = some o := let ⟨_, ⟨ns, h2⟩, _⟩ := h; h2.some
theorem upf_d (d : D) : UpF F (IsD d) := fun _ _ _ e h => Rp.tk e.2 h
theorem upf_v (x : V) : UpF F (fun v _ => v = x) := fun _ _ _ _ h => h
theorem upf_p (p : V → Prop) : UpF F (fun v _ => p v) := fun _ _ _ _ h => h
theorem evf_pure (h : ∀ H1, ExB F H H1 → EvP te σ H1 P) : EvF F L te σ H P := fun H1 e1 f1 Q q => h H1 e1 H1 (Ex.refl _) Q fun v H2 e2 p => q v H2 (ExB.of e2) (f1.ex e2) p
theorem evf_ev (h : ∀ H1, ExB F H H1 → Ev te σ H1 v) : EvF F L te σ H (fun x _ => x = v) := evf_pure fun H1 e1 => evp_ev (h H1 e1) fun _ _ => rfl
theorem evf_var {i : Nat} (h : σ[i]? = some (some v)) : EvF F L (tVar i) σ H (fun x _ => x = v) := evf_ev fun _ _ => ev_var h
theorem evf_c : EvF F L (tC v) σ H (fun x _ => x = v) := evf_ev fun _ _ => ev_c
theorem EvF.mono (e : ExB F H H') (h : EvF F L te σ H P) : EvF F L te σ H' P := fun H1 a f Q q => h H1 (e.trans a) f Q q
theorem EvF.imp (h : EvF F L te σ H P) (k : ∀ v H2, ExB F H H2 → P v H2 → P' v H2) : EvF F L te σ H P' := fun H1 e1 f1 Q q => h H1 e1 f1 Q fun v H2 e2 f2 p => q v H2 e2 f2 (k v H2 (e1.trans e2) p)
theorem evf_op (ha : EvF F L ta σ H P) (hP : UpF F P) (hb : EvF F L tb σ H P2) (hr : ∀ x y H1, ExB F H H1 → P x H1 → P2 y H1 → ∀ Q : VK, (∀ z H2, Ex H1 H2 → S z H2 → Q z H2) → r x y H1 Q) : EvF F L (tOp r ta tb) σ H S := fun H1 e1 f1 Q q =>
  ha H1 e1 f1 _ fun x H2 e2 f2 p => hb H2 (e1.trans e2) f2 _ fun y H3 e3 f3 p' => hr x y H3 ((e1.trans e2).trans e3) (hP x _ _ e3 p) p' Q fun z H4 e4 s => q z H4 ((e2.trans e3).trans (ExB.of e4)) (f3.ex e4) s
theorem q_asgF {i : Nat} (f : FeedAt H F L) (h : EvF F L te σ H P) (k : ∀ v H1, ExB F H H1 → FeedAt H1 F L → P v H1 → tz N (σ.set i (some v)) H1) : tSeq (tAsg te (gName i)) tz N σ H := h H (ExB.refl _ _) f _ fun v H1 e1 f1 p => k v H1 e1 f1 p
theorem s_asgF {i : Nat} (f : FeedAt H F L) (h : EvF F L te σ H P) (k : ∀ v H1, ExB F H H1 → FeedAt H1 F L → P v H1 → N.nx (σ.set i (some v)) H1) : tAsg te (gName i) N σ H := h H (ExB.refl _ _) f _ fun v H1 e1 f1 p => k v H1 e1 f1 p
theorem s_retF (f : FeedAt H F L) (h : EvF F L te σ H P) (k : RetF F L P H N.rt) : tRet te N σ H := h H (ExB.refl _ _) f _ k
/-- a test by a value that draws -/
theorem q_whenF {t : TT} {tu : TS} {Pb : Bool → Prop} (f : FeedAt H F L) (h : ∀ H1, ExB F H H1 → FeedAt H1 F L → ∀ Q : Bool → Hp → Prop, (∀ b H2, ExB F H1 H2 → FeedAt H2 F L → Pb b → Q b H2) → t σ H1 Q)
    (h1 : ∀ H1, Pb true → ExB F H H1 → FeedAt H1 F L → tu { N with nx := tz N } σ H1) (h2 : ∀ H1, Pb false → ExB F H H1 → FeedAt H1 F L → tz N σ H1) : tSeq (tIfS t tu tNext) tz N σ H :=
  h H (ExB.refl _ _) f _ fun b H1 e1 f1 p => by
    cases b with
    | true => exact h1 H1 p e1 f1
    | false => exact h2 H1 p e1 f1
end
/-- arguments that may draw -/
def EvFs (F L : Addr) (ta : TA) (σ : L2.St) (H : Hp) (Ps : List (V → Hp → Prop)) : Prop := ∀ H1, ExB F H H1 → FeedAt H1 F L → ∀ Q : List V → Hp → Prop, (∀ vs H2, ExB F H1 H2 → FeedAt H2 F L → PsOk H2 Ps vs → Q vs H2) → ta σ H1 Q
section
variable {F L : Addr} {σ : L2.St} {H : Hp} {ta te : TE} {P : V → Hp → Prop}
theorem efs_nil : EvFs F L tNil σ H [] := fun H1 _ f Q q => q [] H1 (ExB.refl _ _) f .nil
theorem efs_cons {tr : TA} {Ps : List (V → Hp → Prop)} (h : EvF F L ta σ H P) (up : UpF F P) (hr : EvFs F L tr σ H Ps) : EvFs F L (tCons ta tr) σ H (P :: Ps) := fun H1 e1 f1 Q q =>
  h H1 e1 f1 _ fun v H2 e2 f2 p => hr H2 (e1.trans e2) f2 _ fun vs H3 e3 f3 p' => q (v :: vs) H3 (e2.trans e3) f3 (.cons (up _ _ _ e3 p) p')
/-- a call of a def that draws -/
theorem evf_call {sp : Sp} {E : XK} {ta : TA} {Ps : List (V → Hp → Prop)} (h : EvFs F L ta σ H Ps) (hs : ∀ H1 vs, ExB F H H1 → FeedAt H1 F L → PsOk H1 Ps vs → ∀ Q : VK, (∀ v H2, ExB F H1 H2 → FeedAt H2 F L → P v H2 → Q v H2) → sp vs H1 Q E) : EvF F L (tCall sp [] E ta) σ H P := fun H1 e1 f1 Q q =>
  h H1 e1 f1 _ fun vs H2 e2 f2 p => by
    show sp (vs ++ []) H2 Q E
    rw [List.append_nil]
    exact hs H2 vs (e1.trans e2) f2 p Q fun v H3 e3 f3 => q v H3 (e2.trans e3) f3
end
theorem ps1 {H : Hp} {P : V → Hp → Prop} {vs : List V} (h : PsOk H [P] vs) : ∃ v, vs = [v] ∧ P v H := by
  cases h with
  | cons a t => cases t; exact ⟨_, rfl, a⟩
theorem ps2 {H : Hp} {P P2 : V → Hp → Prop} {vs : List V} (h : PsOk H [P, P2] vs) : ∃ v u, vs = [v, u] ∧ P v H ∧ P2 u H := by
  cases h with
  | cons a t => obtain ⟨u, rfl, b⟩ := ps1 t; exact ⟨_, _, rfl, a, b⟩
theorem ps3 {H : Hp} {P P2 P3 : V → Hp → Prop} {vs : List V} (h : PsOk H [P, P2, P3] vs) : ∃ v u x, vs = [v, u, x] ∧ P v H ∧ P2 u H ∧ P3 x H := by
  cases h with
  | cons a t => obtain ⟨u, x, rfl, b, c⟩ := ps2 t; exact ⟨_, _, _, rfl, a, b, c⟩
def IsN (lo hi : Int) : V → Hp → Prop := fun v _ => ∃ n : Int, v = .int n ∧ lo ≤ n ∧ n < hi
theorem upf_n (F : Addr) (lo hi : Int) : UpF F (IsN lo hi) := fun _ _ _ _ h => h
def spDraw : Sp := fun vs H Q _ => ∃ F L many, vs = [.ref F, .int many] ∧ FeedAt H F L ∧ 0 < many ∧ many < 1073741824 ∧ RetF F L (IsN 0 many) H Q
section
variable {P : Program} {w : World} {K : PySem.W.Frag} {mg : Str → Option Value} {base : Heap}
theorem ok_draw (T : Txt K mg) : FnOk P w K mg base CX0 1 T.l_draw.f T.l_draw.fd ["_law_feed", "_law_many"] spDraw := by
  refine T.l_draw.F.ok c_l_draw (fun vs H Q E h => ?_) (fun cdv A outer sh H vs Q E hr h => ?_)
  · obtain ⟨_, _, _, rfl, _⟩ := h
    rfl
  · obtain ⟨F, L, many, rfl, ⟨⟨c, g, hF⟩, ⟨ns, hL⟩, nLF⟩, hm0, hm1, k⟩ := h
    refine ⟨_, pss_cons (ps_asg (pe_op op_add (pe_ix ix_list (pv 0) pe_int (fun _ _ => rfl)) pe_int) (pg_sub (pv 0) pe_int set_list))
      (pss_cons (ps_if (pt_cmpR op_eq (pe_ix ix_list (pv 0) pe_int (fun _ _ => rfl)) pe_int (nomark _))
        (pss_cons (ps_set (i := 2) c_l_draw.nd rfl (Or.inl rfl) (pe_ix ix_list (pv 0) pe_int (fun _ _ => rfl)))
        (pss_cons (ps_if (pt_cmpR op_gt (pe_callB call_len_seq (by rfl) T.z_len PySem.boot_len (pa_cons (pe_ix ix_list (pv 0) pe_int (fun _ _ => rfl)) pa_nil)) pe_int (nomark _))
          (pss_one (ps_set (i := 2) c_l_draw.nd rfl (Or.inl rfl) (pe_ix ix_list (pe_ix ix_list (pv 0) pe_int (fun _ _ => rfl)) (pe_op op_modN (pe_ix ix_list (pv 0) pe_int (fun _ _ => rfl)) (pe_callB call_len_seq (by rfl) T.z_len PySem.boot_len (pa_cons (pe_ix ix_list (pv 0) pe_int (fun _ _ => rfl)) pa_nil))) (fun _ _ => rfl)))) pss_nil)
        (pss_cons (ps_if (pt_cmpR op_lt (pv 2) (pe_op op_pow pe_int pe_int) (nomark _))
          (pss_cons (ps_set (i := 3) c_l_draw.nd rfl (Or.inl rfl) (pe_op op_modN (pe_op op_mul (pe_op op_add (pe_op op_add (pe_op op_modN (pv 2) pe_int) (pe_op op_mul pe_int (pe_ix ix_list (pv 0) pe_int (fun _ _ => rfl)))) pe_int) pe_int) pe_int))
          (pss_cons (ps_set (i := 3) c_l_draw.nd rfl (Or.inl rfl) (pe_op op_modN (pe_op op_mul (pv 3) (pe_op op_add (pv 3) pe_int)) pe_int))
          (pss_one (ps_ret (pe_op op_modN (pe_op op_fdivN (pv 3) pe_int) (pv 1)))))) pss_nil)
        (pss_one (ps_asg (pv 2) (pg_sub (pv 0) pe_int set_list)))))) pss_nil)
      (pss_cons (ps_set (i := 4) c_l_draw.nd rfl (Or.inl rfl) (pe_op op_modN (pe_ix ix_list (pv 0) pe_int (fun _ _ => rfl)) (pv 1)))
      (pss_cons (ps_asg (pe_op op_fdivN (pe_ix ix_list (pv 0) pe_int (fun _ _ => rfl)) (pv 1)) (pg_sub (pv 0) pe_int set_list))
      (pss_one (ps_ret (pv 4)))))), ?_⟩
    have cd : ∀ j : Int, CDivN j many := fun j => ⟨by omega, by omega⟩
    have get : ∀ (σ : L2.St) (H1 : Hp) (c g : Int) (j : Nat) (v : V), σ[0]? = some (some (.ref F)) → H1 F = some (.lst [.ref L, .int c, .int g]) → [V.ref L, .int c, .int g][j]? = some v → Ev (tOp (rIxL K) (tVar 0) (tC (.int (j : Int)))) σ H1 v := fun σ H1 c g j v h0 h1 hj =>
      ev_op (ev_var h0) ev_c (rv_ixL (sq_of h1) (atI_nat hj))
    have fm0 : ∀ a : Int, 0 ≤ a.fmod many := fun a => Int.fmod_nonneg_of_pos a hm0
    have fm1 : ∀ a : Int, a.fmod many < many := fun a => Int.fmod_lt_of_pos a hm0
    refine q_setL (j := 1) hF (ev_op (get _ H c g 1 _ rfl hF rfl) ev_c rv_I0) (ev_var rfl) ev_c (by show 1 < 3; decide) fun H1 e1 => ?_
    have hF1 : upd H1 F (.lst [.ref L, .int (c + 1), .int g]) F = some (.lst [.ref L, .int (c + 1), .int g]) := upd_same
    have x1 : ExB F H (upd H1 F (.lst [.ref L, .int (c + 1), .int g])) := (ExB.of e1).trans (ExB.upd fun ys q => by rw [e1 _ _ hF] at q; cases q)
    show tSeq _ _ _ _ (upd H1 F (.lst [.ref L, .int (c + 1), .int g]))
    have hL1 := hL.exb x1 nLF
    generalize hHH : upd H1 F (.lst [.ref L, .int (c + 1), .int g]) = H2 at hF1 x1 hL1 ⊢
    clear hHH e1 H1
    have fin : ∀ (σ : L2.St) (H3 : Hp) (g' : Int), σ[0]? = some (some (.ref F)) → σ[1]? = some (some (.int many)) → σ.length = 5 → Ex H2 H3 ∨ ExB F H2 H3 → H3 F = some (.lst [.ref L, .int (c + 1), .int g']) →
        tSeq (tAsg (tOp (rI (fun _ j => j ≠ 0) fun i j => .int (i.fmod j)) (tOp (rIxL K) (tVar 0) (tC (.int 2))) (tVar 1)) (gName 4)) (tSeq (tAsg (tOp (rI CDivN fun i j => .int (i.fdiv j)) (tOp (rIxL K) (tVar 0) (tC (.int 2))) (tVar 1)) (gSub (tVar 0) (tC (.int 2)) rSetL)) (tRet (tVar 4))) { nx := fun _ H' => Q .non H', rt := Q } σ H3 := fun σ H3 g' s0 s1 sl hx h3 => by
      have xx : ExB F H2 H3 := hx.elim ExB.of id
      have s0' : ∀ z, (σ.set 4 z)[0]? = some (some (.ref F)) := fun z => by rw [List.getElem?_set_ne (by decide)]; exact s0
      have s1' : ∀ z, (σ.set 4 z)[1]? = some (some (.int many)) := fun z => by rw [List.getElem?_set_ne (by decide)]; exact s1
      refine q_asg (ev_op (get σ H3 (c + 1) g' 2 _ s0 h3 rfl) (ev_var s1) (rv_I (by omega))) fun H4 e4 => ?_
      refine q_setL (j := 2) (e4 _ _ h3) (ev_op (get _ H4 (c + 1) g' 2 _ (s0' _) (e4 _ _ h3) rfl) (ev_var (s1' _)) (rv_I (cd _))) (ev_var (s0' _)) ev_c (by show 2 < 3; decide) fun H5 e5 => ?_
      have x5 : ExB F H5 (upd H5 F (.lst [.ref L, .int (c + 1), .int (g'.fdiv many)])) := ExB.upd fun ys q => by rw [(e4.trans e5) _ _ h3] at q; cases q
      have x05 : ExB F H (upd H5 F (.lst [.ref L, .int (c + 1), .int (g'.fdiv many)])) := ((x1.trans xx).ex (e4.trans e5)).trans x5
      refine s_ret (v := .int (g'.fmod many)) (ev_var (by rw [List.getElem?_set_self (by omega)])) fun H6 e6 => k _ H6 (x05.ex e6) (FeedAt.ex e6 ⟨⟨_, _, upd_same⟩, ⟨ns, hL.exb x05 nLF⟩, nLF⟩) ⟨_, rfl, fm0 _, fm1 _⟩
    refine q_when (b := decide (g = 0)) (et_test (ev_eqI (get _ H2 (c + 1) g 2 _ rfl hF1 rfl) ev_c)) (fun hb H3 e3 => ?_) (fun hb H3 e3 => fin _ H3 g rfl rfl rfl (.inl e3) (e3 _ _ hF1))
    refine q_asg (get _ H3 (c + 1) g 1 _ rfl (e3 _ _ hF1) rfl) fun H4 e4 => ?_
    have e24 := e3.trans e4
    have hL4 := hL1.ex e24
    have hF4 := e24 _ _ hF1
    have cell : ∀ (σ : L2.St) (H5 : Hp) (cell : Int), σ = [some (V.ref F), some (.int many), some (.int cell), none, none] → Ex H2 H5 →
        tSeq (tIfS (tTest (tOp (rI0 fun i j => .bl (decide (i < j))) (tVar 2) (tOp (rI CPow fun i j => .int (i ^ j.toNat)) (tC (.int 10)) (tC (.int 18)))))
          (tSeq (tAsg (tOp (rI (fun _ j => j ≠ 0) fun i j => .int (i.fmod j)) (tOp (rI CMul fun i j => .int (i * j)) (tOp (rI0 fun i j => .int (i + j)) (tOp (rI0 fun i j => .int (i + j)) (tOp (rI (fun _ j => j ≠ 0) fun i j => .int (i.fmod j)) (tVar 2) (tC (.int 2147483647))) (tOp (rI CMul fun i j => .int (i * j)) (tC (.int 613)) (tOp (rIxL K) (tVar 0) (tC (.int 1))))) (tC (.int 7))) (tC (.int 48271))) (tC (.int 2147483647))) (gName 3))
          (tSeq (tAsg (tOp (rI (fun _ j => j ≠ 0) fun i j => .int (i.fmod j)) (tOp (rI CMul fun i j => .int (i * j)) (tVar 3) (tOp (rI0 fun i j => .int (i + j)) (tVar 3) (tC (.int 69621)))) (tC (.int 2147483629))) (gName 3))
          (tRet (tOp (rI (fun _ j => j ≠ 0) fun i j => .int (i.fmod j)) (tOp (rI CDivN fun i j => .int (i.fdiv j)) (tVar 3) (tC (.int 64))) (tVar 1))))) tNext)
        (tAsg (tVar 2) (gSub (tVar 0) (tC (.int 2)) rSetL))
        { nx := tSeq (tAsg (tOp (rI (fun _ j => j ≠ 0) fun i j => .int (i.fmod j)) (tOp (rIxL K) (tVar 0) (tC (.int 2))) (tVar 1)) (gName 4)) (tSeq (tAsg (tOp (rI CDivN fun i j => .int (i.fdiv j)) (tOp (rIxL K) (tVar 0) (tC (.int 2))) (tVar 1)) (gSub (tVar 0) (tC (.int 2)) rSetL)) (tRet (tVar 4))) { nx := fun _ H' => Q .non H', rt := Q }, rt := Q } σ H5 := fun σ H5 cell hσ e5 => by
      subst hσ
      have hF5 := e5 _ _ hF1
      refine q_when (b := decide (cell < 10 ^ (18 : Int).toNat)) (et_test (ev_op (ev_var rfl) (ev_op ev_c ev_c (rv_I (by refine ⟨by decide, by decide, by decide⟩))) rv_I0)) (fun hb H6 e6 => ?_) (fun hb H6 e6 => ?_)
      · have hF6 := e6 _ _ hF5
        refine q_asg (ev_op (ev_op (ev_op (ev_op (ev_op (ev_var rfl) ev_c (rv_I (by decide))) (ev_op ev_c (get _ H6 (c + 1) g 1 _ rfl hF6 rfl) (rv_I (.inl (by decide)))) rv_I0) ev_c rv_I0) ev_c (rv_I (.inr (by decide)))) ev_c (rv_I (by decide))) fun H7 e7 => ?_
        generalize hnum : (((cell.fmod 2147483647 + 613 * (c + 1) + 7) * 48271).fmod 2147483647 : Int) = num
        have n0 : 0 ≤ num := hnum ▸ Int.fmod_nonneg_of_pos _ (by decide)
        have n1 : num < 2147483647 := hnum ▸ Int.fmod_lt_of_pos _ (by decide)
        refine q_asg (ev_op (ev_op (ev_var rfl) (ev_op (ev_var rfl) ev_c rv_I0) (rv_I (.inl ⟨by omega, by omega⟩))) ev_c (rv_I (by decide))) fun H8 e8 => ?_
        refine s_ret (ev_op (ev_op (ev_var rfl) ev_c (rv_I ⟨by decide, by decide⟩)) (ev_var rfl) (rv_I (by omega))) fun H9 e9 => ?_
        have e29 := e5.trans ((e6.trans e7).trans (e8.trans e9))
        exact k _ H9 (x1.ex e29) (FeedAt.ex e29 ⟨⟨_, _, hF1⟩, ⟨ns, hL1⟩, nLF⟩) ⟨_, rfl, fm0 _, fm1 _⟩
      · refine s_setL (j := 2) (e6 _ _ hF5) (ev_var rfl) (ev_var rfl) ev_c (by show 2 < 3; decide) fun H7 e7 => ?_
        have hF7 := (e6.trans e7) _ _ hF5
        refine fin _ _ cell rfl rfl rfl (.inr ((ExB.of (e5.trans (e6.trans e7))).trans (ExB.upd fun ys q => by rw [hF7] at q; cases q))) upd_same
    refine q_when (b := decide ((0 : Int) < ns.length)) (et_test (ev_is (ev_op (ev_lenL (evl_ev (get _ H4 (c + 1) g 0 _ rfl hF4 rfl) hL4)) ev_c rv_I0) (by rw [List.length_map]))) (fun hb H5 e5 => ?_) (fun hb H5 e5 => cell _ H5 (c + 1) rfl (e24.trans e5))
    have hns : (0 : Int) < ns.length := of_decide_eq_true hb
    have hF5 := e5 _ _ hF4
    have hL5 := hL4.ex e5
    obtain ⟨i, hi, hlt⟩ : ∃ i : Nat, (c + 1).fmod (ns.length : Int) = (i : Int) ∧ i < ns.length := by
      have h0 := Int.fmod_nonneg_of_pos (c + 1) hns
      have h1 := Int.fmod_lt_of_pos (c + 1) hns
      exact ⟨((c + 1).fmod (ns.length : Int)).toNat, by omega, by omega⟩
    have hat : atI (ns.map NestedKey.num) ((c + 1).fmod (ns.length : Int)) = some (.num ns[i]) := by
      rw [hi]
      exact atI_nat (by rw [List.getElem?_map, List.getElem?_eq_getElem hlt]; rfl)
    refine s_asg (v := .int ns[i]) (ev_num (evd_ixL (evl_ev (get _ H5 (c + 1) g 0 _ rfl hF5 rfl) hL5) (ev_op (get _ H5 (c + 1) g 1 _ rfl hF5 rfl) (ev_is (ev_lenL (evl_ev (get _ H5 (c + 1) g 0 _ rfl hF5 rfl) hL5)) (by rw [List.length_map])) (rv_I (by omega))) hat)) fun H6 e6 => cell _ H6 _ rfl ((e24.trans e5).trans e6)
end
end R
/-! W17: the law's texts: names -/
namespace R
open PySem L2 Evl
theorem nil_str : ("" : Str) = ⟨#[]⟩ := by decide +kernel
theorem join_nil (ys : List Str) : (Txt.join ⟨#[]⟩ ys).cps.toList = ys.flatMap fun y => y.cps.toList := by
  rw [TL.join_eq]
  induction ys with
  | nil => rfl
  | cons y ys ih =>
    cases ys with
    | nil => simp [Str.join]
    | cons z ys =>
      show ((y ++ ⟨#[]⟩ ++ Str.join ⟨#[]⟩ (z :: ys)) : Str).cps.toList = _
      have e : ((y ++ ⟨#[]⟩ ++ Str.join ⟨#[]⟩ (z :: ys)) : Str).cps = y.cps ++ #[] ++ (Str.join ⟨#[]⟩ (z :: ys)).cps := rfl
      rw [e, Array.append_empty, Array.toList_append, ih]
      rfl
/-- a new list of texts of which something holds, one by one -/
def TxtL (p : Nat → Str → Prop) (n : Nat) : V → Hp → Prop := fun v H => ∃ (D : Addr) (ys : List Str), v = .ref D ∧ H D = some (.lst (ys.map V.str)) ∧ ys.length = n ∧ ∀ i y, ys[i]? = some y → p i y
section
variable {F L : Addr} {K : PySem.W.Frag} {σ : L2.St} {H : Hp} {te ta : TE} {J : It} {n j : Nat} {Y : Nat → Hp → V → Hp → Prop} {wi : TI}
theorem evf_lcTxt (wk : Walk J n (fun _ => True) Y) (hw : ∀ H1, ExB F H H1 → FeedAt H1 F L → ∀ R : It → Hp → Prop, (∀ H2, ExB F H1 H2 → FeedAt H2 F L → R J H2) → wi σ H1 R) (X : Nat → V → Prop) (hy : ∀ i H x H', i < n → Y i H x H' → H' = H ∧ X i x) (hn : n ≤ 1000)
    (hwp : ∀ x, wipe ((wipe σ [j]).set j (some x)) [j] = wipe σ [j]) (p : Nat → Str → Prop) (hs : ∀ i x H1, i < n → X i x → ExB F H H1 → EvF F L te ((wipe σ [j]).set j (some x)) H1 (fun v _ => ∃ y, v = .str y ∧ p i y)) :
    EvF F L (tLc wi (gName j) tYes te [j]) σ H (TxtL p n) := fun H1 e1 f1 Q q =>
  hw H1 e1 f1 _ fun H2 e2 f2 => fun D hD => lc_it wk (fun i H' => ExB F H2 H' ∧ FeedAt H' F L ∧ ∃ ys : List Str, H' D = some (.lst (ys.map V.str)) ∧ ys.length = i ∧ ∀ k y, ys[k]? = some y → p k y)
    ⟨ExB.of (Ex.new hD), f2.ex (Ex.new hD), [], upd_same, rfl, fun k y h => by simp at h⟩ (fun _ _ _ _ => trivial) (fun i x H' H'' hi hp hyy => by
      obtain ⟨rfl, hx⟩ := hy i H' x H'' hi hyy
      obtain ⟨e3, f3, ys, h1, h2, h3⟩ := hp
      refine ⟨hwp x, ?_⟩
      show te _ _ _
      have nDF : D ≠ F := fun z => by
        obtain ⟨o, ho⟩ := f2.at1
        rw [← z, hD] at ho
        cases ho
      have nDL : D ≠ L := fun z => by
        obtain ⟨o, ho⟩ := f2.atL
        rw [← z, hD] at ho
        cases ho
      refine hs i x _ hi hx ((e1.trans e2).trans e3) _ (ExB.refl _ _) f3 _ fun v H4 e4 f4 ⟨y, ev, py⟩ => ?_
      subst ev
      have h4 := e4.1 _ _ nDF h1
      have eb : ExB D H4 (upd H4 D (.lst (ys.map V.str ++ [.str y]))) := ExB.upd fun zs q => by rw [h4] at q; cases q
      have hD2 : ∀ b o, b ≠ F → H2 b = some o → (upd H4 D (.lst (ys.map V.str ++ [.str y]))) b = some o := fun b o hb hbo => eb.1 b o (ne_of_none hbo hD) ((e3.trans e4).1 b o hb hbo)
      refine ⟨_, h4, sz_lt (by rw [List.length_map]; omega), ⟨hD2, (e3.trans e4).2.trans eb.2⟩, f4.exb eb nDF.symm nDL.symm, ys ++ [y], ?_, by rw [List.length_append, List.length_singleton, h2], fun k z hz => ?_⟩
      · rw [List.map_append]
        exact upd_same
      · rcases Nat.lt_or_ge k ys.length with hk | hk
        · rw [List.getElem?_append_left hk] at hz
          exact h3 k z hz
        · rw [List.getElem?_append_right hk] at hz
          cases hkk : k - ys.length with
          | zero =>
            rw [hkk] at hz
            cases hz
            have : k = i := by omega
            rw [this]
            exact py
          | succ m => rw [hkk] at hz; simp at hz) fun H' ⟨e3, f3, ys, h1, h2, h3⟩ => q _ H' (e2.trans e3) f3 ⟨D, ys, rfl, h1, h2, h3⟩
/-- "".join(..) -/
theorem evf_join {p : Nat → Str → Prop} (h : EvF F L te σ H (TxtL p n)) (hp : ∀ i y, p i y → y.length = 1) (hn : n ≤ 1000) :
    EvF F L (tM1 (fun x xs H Q => ∃ a p, ∃ ys : List Str, x = .str a ∧ xs = [.ref p] ∧ (SqL K H p (ys.map V.str) ∨ SqT K H p (ys.map V.str)) ∧ (ys.map (·.length)).sum + ys.length * a.length ≤ 16777216 ∧ Q (.str (Txt.join a ys)) H) (tC (.str "")) te) σ H
      (fun v _ => ∃ ys : List Str, v = .str (Txt.join ⟨#[]⟩ ys) ∧ ys.length = n ∧ ∀ i y, ys[i]? = some y → p i y) := fun H1 e1 f1 Q q =>
  ⟨⟨_, rfl⟩, h H1 e1 f1 _ fun v H2 e2 f2 ⟨D, ys, ev, h1, h2, h3⟩ => by
    subst ev
    have hsum : (ys.map (·.length)).sum = ys.length := by
      have : ∀ zs : List Str, (∀ z ∈ zs, z.length = 1) → (zs.map (·.length)).sum = zs.length := by
        intro zs
        induction zs with
        | nil => intro _; rfl
        | cons z zs ih =>
          intro hz
          rw [List.map_cons, List.sum_cons, hz z (List.mem_cons_self ..), ih fun y hy => hz y (List.mem_cons_of_mem _ hy), List.length_cons]
          omega
      refine this ys fun z hz => ?_
      obtain ⟨i, hi⟩ := List.getElem?_of_mem hz
      exact hp i z (h3 i z hi)
    refine ⟨"", D, ys, rfl, rfl, .inl (SqL.of h1), ?_, ?_⟩
    · rw [nil_str, hsum]
      show ys.length + ys.length * 0 ≤ _
      omega
    · rw [nil_str]
      exact q _ H2 e2 f2 ⟨ys, rfl, h2, h3⟩⟩
end
theorem join_ok {ys : List Str} (hl : ys.length ≤ 100) (h : ∀ y ∈ ys, y.length = 1 ∧ ∀ c ∈ y.cps.toList, c < 128) : okS (Txt.join ⟨#[]⟩ ys) = true := by
  have e := join_nil ys
  generalize Txt.join ⟨#[]⟩ ys = s at e
  refine okS_of (l := s.cps) (fun c hc => ?_) ?_
  · rw [e] at hc
    obtain ⟨y, hy, hc⟩ := List.mem_flatMap.mp hc
    exact (h y hy).2 c hc
  · rw [← Array.length_toList, e, List.length_flatMap]
    have : (ys.map fun y => y.cps.toList.length).sum = ys.length := by
      clear e hl
      induction ys with
      | nil => rfl
      | cons z zs ih =>
        have hz : z.cps.toList.length = 1 := by rw [Array.length_toList]; exact (h z (List.mem_cons_self ..)).1
        rw [List.map_cons, List.sum_cons, hz, ih fun y hy => h y (List.mem_cons_of_mem _ hy), List.length_cons]
        omega
    omega
def spNmS : Sp := fun vs H Q _ => vs = [] ∧ RetV (.str "abcdefghijklmnopqrstuvwxyzABCDEFGHIJKLMNOPQRSTUVWXYZ0123456789-_.") H Q
def IsT (p : Str → Prop) : V → Hp → Prop := fun v _ => ∃ s, v = .str s ∧ p s
theorem upf_t (F : Addr) (p : Str → Prop) : UpF F (IsT p) := fun _ _ _ _ h => h
def Asc (s : Str) : Prop := 0 < s.length ∧ s.length ≤ 1000 ∧ ∀ c ∈ s.cps.toList, c < 128
def spText : Sp := fun vs H Q _ => ∃ F L s n, vs = [.ref F, .str s, .int n] ∧ FeedAt H F L ∧ Asc s ∧ 0 ≤ n ∧ n ≤ 50 ∧ RetF F L (IsT fun r => okS r = true ∧ (r.length : Int) = n) H Q
def spName : Sp := fun vs H Q _ => ∃ F L, vs = [.ref F] ∧ FeedAt H F L ∧ RetF F L (IsT fun r => okS r = true) H Q
def spFold : Sp := fun vs H Q _ => ∃ a b, vs = [.str a, .bl b] ∧ a.length ≤ 100 ∧ RetV (.str (hold b a)) H Q
theorem join_len {ys : List Str} (h : ∀ y ∈ ys, y.length = 1) : (Txt.join ⟨#[]⟩ ys).length = ys.length := by
  have e := join_nil ys
  show (Txt.join ⟨#[]⟩ ys).cps.size = _
  rw [← Array.length_toList, e, List.length_flatMap]
  induction ys with
  | nil => rfl
  | cons z zs ih =>
    have hz : z.cps.toList.length = 1 := by rw [Array.length_toList]; exact h z (List.mem_cons_self ..)
    rw [List.map_cons, List.sum_cons, hz, ih (fun y hy => h y (List.mem_cons_of_mem _ hy)) (join_nil zs), List.length_cons]
    omega
section
variable {P : Program} {w : World} {K : PySem.W.Frag} {mg : Str → Option Value} {base : Heap}
theorem ok_nms (T : Txt K mg) : FnOk P w K mg base CX0 1 T.l_name_signs.f T.l_name_signs.fd [] spNmS := by
  refine T.l_name_signs.F.ok c_l_name_signs (fun vs H Q E h => ?_) (fun cdv A outer sh H vs Q E hr h => ?_)
  · obtain ⟨rfl, _⟩ := h
    rfl
  · obtain ⟨rfl, k⟩ := h
    exact ⟨_, pss_one (ps_ret pe_str), s_ret ev_c k⟩
theorem ok_fold (T : Txt K mg) : FnOk P w K mg base CX0 1 T.l_fold.f T.l_fold.fd ["_law_name", "_law_blind"] spFold := by
  refine T.l_fold.F.ok c_l_fold (fun vs H Q E h => ?_) (fun cdv A outer sh H vs Q E hr h => ?_)
  · obtain ⟨_, _, rfl, _⟩ := h
    rfl
  · obtain ⟨a, b, rfl, la, k⟩ := h
    refine ⟨_, pss_one (ps_ret (pe_ifExp (pt_val (pv 1)) (pe_lower (pv 0)) (pv 0))), ?_⟩
    refine s_ret (ev_if (b := b) (et_B (ev_var rfl)) (fun hb => ?_) (fun hb => ?_)) k
    · subst hb
      exact ev_case (f := Txt.lower) (ev_var rfl) la
    · subst hb
      exact ev_var rfl
theorem ok_text (T : Txt K mg) : FnOk P w K mg base CX0 2 T.l_text.f T.l_text.fd ["_law_feed", "_law_signs", "_law_size"] spText := by
  refine T.l_text.F.ok c_l_text (fun vs H Q E h => ?_) (fun cdv A outer sh H vs Q E hr h => ?_)
  · obtain ⟨_, _, _, _, rfl, _⟩ := h
    rfl
  · obtain ⟨F, L, s, n, rfl, f, hs, hn0, hn1, k⟩ := h
    refine ⟨_, pss_one (ps_ret (pe_join pe_str (pe_lc (own := [("_law_k", 3)]) (g := gName 3) (tt := tYes) (te := tOp rIxS (tVar 1) (tCall spDraw [] E0 (tCons (tVar 0) (tCons (tCB (fun xs H Q => ∃ z, xs = [.str z] ∧ z.length ≤ sizeLine ∧ Q (.int z.length) H) (tCons (tVar 1) tNil)) tNil)))) rfl c_l_text.nd
      (pi_range1 rfl T.z_range (pa_cons (pv 2) pa_nil)) (blkOk_by (N := n_l_text) (sc := defScope s_l_text) (by decide +kernel)) (fun _ _ _ _ _ => pg_name (i := 3) c_l_text.nd rfl (Or.inl rfl)) (fun _ _ _ _ _ => pts_nil)
      (fun _ _ _ _ _ => pe_ix ix_str (pv 1) (pe_call (ok_draw T) (by exact hr) rfl T.l_draw.g T.l_draw.F.kp T.l_draw.b .nil pass0 (pa_cons (pv 0) (pa_cons (pe_callB call_len_str (by rfl) T.z_len PySem.boot_len (pa_cons (pv 1) pa_nil)) pa_nil))) (fun _ _ => rfl))))), ?_⟩
    obtain ⟨m, rfl⟩ : ∃ m : Nat, n = (m : Int) := ⟨n.toNat, by omega⟩
    have hm : m ≤ 50 := by omega
    refine s_retF f (EvF.imp (evf_join (K := K) (p := fun _ y => y.length = 1 ∧ ∀ c ∈ y.cps.toList, c < 128) (evf_lcTxt (n := m) (walk_range (lo := 0) (n := m)) (fun H1 e1 f1 R q => ?_) (fun i x => True) (fun i H x H' hi hy => ⟨hy.1, trivial⟩) (by omega) (fun x => rfl) _ fun i x H1 hi hx e1 => ?_) (fun i y h => h.1) (by omega)) fun v H2 e2 ⟨ys, ev, hl, hy⟩ => ?_) k
    · exact ea_cons (ev_var rfl) ea_nil H1 (Ex.refl _) _ fun H2 e2 => ⟨(m : Int), rfl, by omega, by omega, q H2 (ExB.of e2) (f1.ex e2)⟩
    · refine EvF.imp (evf_op (P2 := IsN 0 s.length) (evf_var rfl) (upf_v _) (evf_call (Ps := [fun v _ => v = .ref F, fun v _ => v = .int s.length]) (efs_cons (evf_var rfl) (upf_v _) (efs_cons (evf_ev fun H2 e2 => ev_cb (ea_cons (ev_var rfl) ea_nil) fun H3 e3 Q' q => ⟨s, rfl, sz_of (by have := hs.2.1; omega), q H3 (Ex.refl _)⟩) (upf_v _) efs_nil)) fun H2 vs e2 f2 ha Q' q => ?_) (S := fun v _ => ∃ y, v = .str y ∧ (y.length = 1 ∧ ∀ c ∈ y.cps.toList, c < 128)) fun x y H2 e2 px py Q' q => ?_) fun v H2 e2 h => h
      · obtain ⟨_, _, rfl, rfl, rfl⟩ := ps2 ha
        exact ⟨F, L, _, rfl, f2, by have := hs.1; omega, by have := hs.2.1; omega, q⟩
      · subst px
        obtain ⟨j, rfl, h0, h1⟩ := py
        obtain ⟨jn, rfl⟩ : ∃ jn : Nat, j = (jn : Int) := ⟨j.toNat, by omega⟩
        have hlt : jn < s.cps.toList.length := by rw [Array.length_toList]; have : s.length = s.cps.size := rfl; omega
        refine ⟨s, _, s.cps.toList[jn], rfl, rfl, sz_of (by have := hs.2.1; omega), atI_nat (List.getElem?_eq_getElem hlt), q _ H2 (Ex.refl _) ⟨_, rfl, rfl, fun c hc => ?_⟩⟩
        have : c = s.cps.toList[jn] := by simpa using hc
        rw [this]
        exact hs.2.2 _ (List.getElem_mem hlt)
    · have hall : ∀ y ∈ ys, y.length = 1 ∧ ∀ c ∈ y.cps.toList, c < 128 := fun y hy' => by
        obtain ⟨i, hi⟩ := List.getElem?_of_mem hy'
        exact hy i y hi
      exact ⟨_, ev, join_ok (by omega) hall, by rw [join_len fun y hy' => (hall y hy').1, hl]⟩
end
end R
/-! W18: the law's names; some of a list -/
namespace R
open PySem L2 Evl
theorem asc_nms : Asc ("abcdefghijklmnopqrstuvwxyzABCDEFGHIJKLMNOPQRSTUVWXYZ0123456789-_." : Str) := by unfold Asc; decide +kernel
theorem asc_dig : Asc ("0123456789" : Str) := by unfold Asc; decide +kernel
theorem asc_cut : ∀ j : Nat, j < 4 → Asc (cutS ("aAbB-" : Str) none (some (2 + (j : Int)))) := by
  intro j hj
  have : j = 0 ∨ j = 1 ∨ j = 2 ∨ j = 3 := by omega
  rcases this with rfl | rfl | rfl | rfl <;> (unfold Asc; decide +kernel)
theorem okS_app {a b : Str} (ha : okS a = true) (hb : okS b = true) (hl : a.length + b.length ≤ 100) : okS (a ++ b) = true := by
  have e : (a ++ b).cps = a.cps ++ b.cps := rfl
  refine okS_of (l := (a ++ b).cps) (fun c hc => ?_) (by rw [e, Array.size_append]; exact hl)
  rw [e, Array.toList_append] at hc
  rcases List.mem_append.mp hc with h | h
  · exact okS_all ha c h
  · exact okS_all hb c h
section
variable {P : Program} {w : World} {K : PySem.W.Frag} {mg : Str → Option Value} {base : Heap}
variable {F L : Addr} {σ : L2.St} {H : Hp} {ta te : TE}
/-- a draw, as an expression -/
theorem evf_draw {E : XK} {m : Int} (h0 : ∀ H1, ExB F H H1 → Ev ta σ H1 (.ref F)) (h1 : ∀ H1, ExB F H H1 → Ev te σ H1 (.int m)) (hm : 0 < m) (hm2 : m < 1073741824) : EvF F L (tCall spDraw [] E (tCons ta (tCons te tNil))) σ H (IsN 0 m) :=
  evf_call (Ps := [fun v _ => v = .ref F, fun v _ => v = .int m]) (efs_cons (evf_ev h0) (upf_v _) (efs_cons (evf_ev h1) (upf_v _) efs_nil)) fun H2 vs e2 f2 ha Q' q => by
    obtain ⟨_, _, rfl, rfl, rfl⟩ := ps2 ha
    exact ⟨F, L, _, rfl, f2, hm, hm2, q⟩
theorem evf_drawC {E : XK} {i : Nat} {m : Int} (h0 : σ[i]? = some (some (.ref F))) (hm : 0 < m := by decide) (hm2 : m < 1073741824 := by decide) : EvF F L (tCall spDraw [] E (tCons (tVar i) (tCons (tC (.int m)) tNil))) σ H (IsN 0 m) :=
  evf_draw (fun _ _ => ev_var h0) (fun _ _ => ev_c) hm hm2
/-- 1 + a draw -/
theorem evf_plus {a m : Int} {P' : V → Hp → Prop} (h : EvF F L te σ H (IsN 0 m)) : EvF F L (tOp (rI0 fun i j => .int (i + j)) (tC (.int a)) te) σ H (IsN a (a + m)) :=
  evf_op (P := fun v _ => v = .int a) evf_c (upf_v _) h fun x y H1 e1 px py Q q => by
    subst px
    obtain ⟨j, rfl, h0, h1⟩ := py
    exact ⟨a, j, rfl, rfl, q _ H1 (Ex.refl _) ⟨_, rfl, by omega, by omega⟩⟩
theorem IsN.nat {lo hi : Int} (h0 : 0 ≤ lo) {v : V} {H : Hp} (h : IsN lo hi v H) : ∃ j : Nat, v = .int (j : Int) ∧ lo ≤ (j : Int) ∧ (j : Int) < hi := by
  obtain ⟨n, rfl, h1, h2⟩ := h
  exact ⟨n.toNat, by rw [Int.toNat_of_nonneg (by omega)], by omega, by omega⟩
theorem PsOk.mono {H H' : Hp} {Ps : List (V → Hp → Prop)} {vs : List V} (hu : ∀ P ∈ Ps, UpF F P) (e : ExB F H H') (h : PsOk H Ps vs) : PsOk H' Ps vs := by
  induction h with
  | nil => exact .nil
  | cons a _ ih => exact .cons (hu _ (List.mem_cons_self ..) _ _ _ e a) (ih fun P hP => hu P (List.mem_cons_of_mem _ hP))
theorem PsOk.length {H : Hp} {Ps : List (V → Hp → Prop)} {vs : List V} (h : PsOk H Ps vs) : vs.length = Ps.length := by
  induction h with
  | nil => rfl
  | cons _ _ ih => rw [List.length_cons, List.length_cons, ih]
theorem PsOk.get {H : Hp} {Ps : List (V → Hp → Prop)} {vs : List V} (h : PsOk H Ps vs) : ∀ {i : Nat} {x : V}, vs[i]? = some x → ∃ P ∈ Ps, P x H := by
  induction h with
  | nil => intro i x hx; simp at hx
  | cons a _ ih =>
    intro i x hx
    cases i with
    | zero => cases hx; exact ⟨_, List.mem_cons_self .., a⟩
    | succ i => obtain ⟨P, hP, q⟩ := ih hx; exact ⟨P, List.mem_cons_of_mem _ hP, q⟩
/-- a new list, its items told by what holds of them -/
def LstP (F L : Addr) (Ps : List (V → Hp → Prop)) : V → Hp → Prop := fun v H => ∃ p xs, v = .ref p ∧ p ≠ F ∧ p ≠ L ∧ H p = some (.lst xs) ∧ PsOk H Ps xs
theorem upf_lst {Ps : List (V → Hp → Prop)} (hu : ∀ P ∈ Ps, UpF F P) : UpF F (LstP F L Ps) := fun v H H' e ⟨p, xs, h1, h2, h3, h4, h5⟩ => ⟨p, xs, h1, h2, h3, e.1 _ _ h2 h4, h5.mono hu e⟩
theorem evf_lst {ta : TA} {Ps : List (V → Hp → Prop)} (hu : ∀ P ∈ Ps, UpF F P) (h : EvFs F L ta σ H Ps) (hl : Ps.length ≤ 1000) : EvF F L (tLst ta) σ H (LstP F L Ps) := fun H1 e1 f1 Q q =>
  h H1 e1 f1 _ fun vs H2 e2 f2 p => ⟨sz_of (by rw [p.length]; omega), fun a ha => by
    have n1 : a ≠ F := fun z => by obtain ⟨o, ho⟩ := f2.at1; rw [← z, ha] at ho; cases ho
    have n2 : a ≠ L := fun z => by obtain ⟨o, ho⟩ := f2.atL; rw [← z, ha] at ho; cases ho
    exact q _ _ (e2.ex (Ex.new ha)) (f2.ex (Ex.new ha)) ⟨a, vs, rfl, n1, n2, upd_same, p.mono hu (ExB.of (Ex.new ha))⟩⟩
theorem evf_ixP {Ps : List (V → Hp → Prop)} {S : V → Hp → Prop} (hu : ∀ P ∈ Ps, UpF F P) (ha : EvF F L ta σ H (LstP F L Ps)) (hb : EvF F L te σ H (IsN 0 Ps.length)) (hS : ∀ P ∈ Ps, ∀ v H, P v H → S v H) : EvF F L (tOp (rIxL K) ta te) σ H S :=
  evf_op ha (upf_lst hu) hb fun x y H1 e1 ⟨p, xs, ex, _, _, hp, ho⟩ py Q q => by
    subst ex
    obtain ⟨j, rfl, h0, h1⟩ := py.nat (Int.le_refl _)
    have hlt : j < xs.length := by rw [ho.length]; omega
    obtain ⟨P, hP, hv⟩ := ho.get (List.getElem?_eq_getElem hlt)
    exact ⟨p, xs, _, xs[j], rfl, rfl, SqL.of hp, atI_nat (List.getElem?_eq_getElem hlt), q _ H1 (Ex.refl _) (hS P hP _ _ hv)⟩
theorem ok_a_name (T : Txt K mg) : FnOk P w K mg base CX0 3 T.l_a_name.f T.l_a_name.fd ["_law_feed"] spName := by
  refine T.l_a_name.F.ok c_l_a_name (fun vs H Q E h => ?_) (fun cdv A outer sh H vs Q E hr h => ?_)
  · obtain ⟨_, _, rfl, _⟩ := h
    rfl
  · obtain ⟨F, L, rfl, f, k⟩ := h
    have hr1 : Room 1 _ := hr.mono (by decide)
    refine ⟨_, pss_cons (ps_set (i := 1) c_l_a_name.nd rfl (Or.inl rfl) (pe_call (ok_draw T) hr1 rfl T.l_draw.g T.l_draw.F.kp T.l_draw.b .nil pass0 (pa_cons (pv 0) (pa_cons pe_int pa_nil))))
      (pss_cons (ps_if (pt_cmpR op_eq (pv 1) pe_int (nomark _)) (pss_one (ps_ret (pe_call (ok_text T) hr rfl T.l_text.g T.l_text.F.kp T.l_text.b .nil pass0 (pa_cons (pv 0) (pa_cons (pe_call0 (ok_nms T) hr1 rfl T.l_name_signs.g T.l_name_signs.F.kp T.l_name_signs.b .nil pass0)
          (pa_cons (pe_op op_add pe_int (pe_call (ok_draw T) hr1 rfl T.l_draw.g T.l_draw.F.kp T.l_draw.b .nil pass0 (pa_cons (pv 0) (pa_cons pe_int pa_nil)))) pa_nil)))))) pss_nil)
      (pss_cons (ps_if (pt_cmpR op_eq (pv 1) pe_int (nomark _)) (pss_one (ps_ret (pe_op op_add_str (pe_ix ix_list (pe_lst (pa_cons pe_str (pa_cons pe_str (pa_cons pe_str pa_nil)))) (pe_call (ok_draw T) hr1 rfl T.l_draw.g T.l_draw.F.kp T.l_draw.b .nil pass0 (pa_cons (pv 0) (pa_cons pe_int pa_nil))) (fun _ _ => rfl))
          (pe_call (ok_text T) hr rfl T.l_text.g T.l_text.F.kp T.l_text.b .nil pass0 (pa_cons (pv 0) (pa_cons pe_str (pa_cons (pe_op op_add pe_int (pe_call (ok_draw T) hr1 rfl T.l_draw.g T.l_draw.F.kp T.l_draw.b .nil pass0 (pa_cons (pv 0) (pa_cons pe_int pa_nil)))) pa_nil))))))) pss_nil)
      (pss_one (ps_ret (pe_call (ok_text T) hr rfl T.l_text.g T.l_text.F.kp T.l_text.b .nil pass0 (pa_cons (pv 0) (pa_cons (pe_slice sl_str pe_str po_none (po_some (pe_op op_add pe_int (pe_call (ok_draw T) hr1 rfl T.l_draw.g T.l_draw.F.kp T.l_draw.b .nil pass0 (pa_cons (pv 0) (pa_cons pe_int pa_nil))))))
          (pa_cons (pe_op op_add pe_int (pe_call (ok_draw T) hr1 rfl T.l_draw.g T.l_draw.F.kp T.l_draw.b .nil pass0 (pa_cons (pv 0) (pa_cons pe_int pa_nil)))) pa_nil)))))))), ?_⟩
    refine q_asgF f (evf_drawC (m := 4) rfl) fun v H1 e1 f1 ⟨n, ev, h0, h1⟩ => ?_
    subst ev
    have text : ∀ (H2 : Hp) (s : Str) (lo hi : Int) (ts tn : TE), FeedAt H2 F L → EvF F L ts [some (V.ref F), some (.int n)] H2 (IsT Asc) → EvF F L tn [some (V.ref F), some (.int n)] H2 (IsN 1 hi) → hi ≤ 14 →
        EvF F L (tCall spText [] E0 (tCons (tVar 0) (tCons ts (tCons tn tNil)))) [some (V.ref F), some (.int n)] H2 (IsT fun r => okS r = true ∧ (r.length : Int) ≤ 13) := fun H2 s lo hi ts tn f2 hs hn hh =>
      evf_call (Ps := [fun v _ => v = .ref F, IsT Asc, IsN 1 hi]) (efs_cons (evf_var rfl) (upf_v _) (efs_cons hs (upf_t _ _) (efs_cons hn (upf_n _ _ _) efs_nil))) fun H3 vs e3 f3 ha Q' q => by
        obtain ⟨_, _, _, rfl, rfl, ⟨s, rfl, as⟩, ⟨m, rfl, m0, m1⟩⟩ := ps3 ha
        exact ⟨F, L, s, m, rfl, f3, as, by omega, by omega, fun v H4 e4 f4 ⟨r, ev, h1, h2⟩ => q v H4 e4 f4 ⟨r, ev, h1, by omega⟩⟩
    refine q_when (b := decide (n = 0)) (et_test (ev_eqI (ev_var rfl) ev_c)) (fun hb H2 e2 => ?_) (fun hb H2 e2 => ?_)
    · refine s_retF (f1.ex e2) (text H2 "" 0 13 _ _ (f1.ex e2) ?_ (evf_plus (P' := fun _ _ => True) (evf_drawC (m := 12) rfl)) (by decide)) fun v H3 e3 f3 ⟨r, ev, h1, h2⟩ => k v H3 ((e1.ex e2).trans e3) f3 ⟨r, ev, h1⟩
      refine EvF.imp (evf_ev (v := .str "abcdefghijklmnopqrstuvwxyzABCDEFGHIJKLMNOPQRSTUVWXYZ0123456789-_.") fun H3 e3 => ev_call ea_nil fun H4 e4 Q' q E' => ⟨rfl, q⟩) fun v H3 e3 ev => ⟨_, ev, asc_nms⟩
    · refine q_when (b := decide (n = 1)) (et_test (ev_eqI (ev_var rfl) ev_c)) (fun hb H3 e3 => ?_) (fun hb H3 e3 => ?_)
      · have hu3 : ∀ P ∈ [fun v _ => v = .str "img", fun v _ => v = .str "IMG", (fun v _ => v = .str "a" : V → Hp → Prop)], UpF F P := by
          intro P hP
          simp only [List.mem_cons, List.not_mem_nil, or_false] at hP
          rcases hP with rfl | rfl | rfl <;> exact upf_v _
        refine s_retF ((f1.ex e2).ex e3) (evf_op (P := IsT fun r => okS r = true ∧ r.length ≤ 3) (evf_ixP (K := K) (Ps := [fun v _ => v = .str "img", fun v _ => v = .str "IMG", fun v _ => v = .str "a"]) hu3 (evf_lst hu3 (efs_cons evf_c (upf_v _) (efs_cons evf_c (upf_v _) (efs_cons evf_c (upf_v _) efs_nil))) (by simp)) (evf_drawC (m := 3) rfl) ?_) (upf_t _ _) (text H3 "" 0 4 _ _ ((f1.ex e2).ex e3) (EvF.imp evf_c fun v H4 e4 ev => ⟨_, ev, asc_dig⟩) (evf_plus (P' := fun _ _ => True) (evf_drawC (m := 3) rfl)) (by decide)) fun x y H4 e4 px py Q' q => ?_) fun v H4 e4 f4 pv => k v H4 (((e1.ex e2).ex e3).trans e4) f4 pv
        · intro P hP v H4 hv
          simp only [List.mem_cons, List.not_mem_nil, or_false] at hP
          rcases hP with rfl | rfl | rfl
          · exact ⟨_, hv, by decide +kernel, by decide +kernel⟩
          · exact ⟨_, hv, by decide +kernel, by decide +kernel⟩
          · exact ⟨_, hv, by decide +kernel, by decide +kernel⟩
        · obtain ⟨a, rfl, ha, hal⟩ := px
          obtain ⟨b, rfl, hb, hbl⟩ := py
          exact ⟨a, b, rfl, rfl, sz_of (by omega), q _ H4 (Ex.refl _) ⟨_, rfl, okS_app ha hb (by omega)⟩⟩
      · refine s_retF ((f1.ex e2).ex e3) (text H3 "" 0 4 _ _ ((f1.ex e2).ex e3) ?_ (evf_plus (P' := fun _ _ => True) (evf_drawC (m := 3) rfl)) (by decide)) fun v H4 e4 f4 ⟨r, ev, h1, h2⟩ => k v H4 (((e1.ex e2).ex e3).trans e4) f4 ⟨r, ev, h1⟩
        refine fun H4 e4 f4 Q' q => evf_plus (P' := fun _ _ => True) (H := H3) (evf_drawC (m := 4) rfl) H4 e4 f4 _ fun v H5 e5 f5 hv => ?_
        obtain ⟨j, rfl, h0, h1⟩ := hv.nat (by decide)
        obtain ⟨jj, rfl⟩ : ∃ jj : Nat, j = 2 + jj := ⟨j - 2, by omega⟩
        have hc := asc_cut jj (by omega)
        have e2j : (((2 + jj : Nat)) : Int) = 2 + (jj : Int) := by omega
        refine ⟨_, rfl, "aAbB-", rfl, by decide +kernel, ?_⟩
        refine q _ H5 e5 f5 ⟨_, rfl, ?_⟩
        rw [e2j]
        exact hc
end
def spOther : Sp := fun vs H Q _ => ∃ F L s, vs = [.ref F, .str s] ∧ FeedAt H F L ∧ okS s = true ∧ RetF F L (IsT fun r => okS r = true ∧ low r = low s) H Q
theorem lo_up (c : Nat) : PyProof.Rows.lo1 (PyProof.Rows.up1 c) = PyProof.Rows.lo1 c := by
  unfold PyProof.Rows.lo1 PyProof.Rows.up1
  repeat' split
  all_goals omega
theorem lo_lo (c : Nat) : PyProof.Rows.lo1 (PyProof.Rows.lo1 c) = PyProof.Rows.lo1 c := by
  unfold PyProof.Rows.lo1
  repeat' split
  all_goals omega
theorem up_lt {c : Nat} (h : c < 128) : PyProof.Rows.up1 c < 128 := by
  unfold PyProof.Rows.up1
  split <;> omega
theorem low_low {s : Str} (h : okS s = true) : low (low s) = low s := by
  rw [low_eq (okS_low h), low_eq h]
  show (⟨(s.cps.map PyProof.Rows.lo1).map PyProof.Rows.lo1⟩ : Str) = _
  rw [Array.map_map]
  congr 1
  exact Array.map_congr_left fun c _ => lo_lo c
theorem same_low {ys : List Str} {s : Str} (hs : okS s = true) (hl : ys.length = s.cps.size) (h : ∀ (i : Nat) (y : Str), ys[i]? = some y → ∃ c d : Nat, s.cps[i]? = some c ∧ y = ⟨#[d]⟩ ∧ PyProof.Rows.lo1 d = PyProof.Rows.lo1 c ∧ d < 128) :
    okS (Txt.join ⟨#[]⟩ ys) = true ∧ low (Txt.join ⟨#[]⟩ ys) = low s := by
  have h1 : ∀ y ∈ ys, y.length = 1 ∧ ∀ c ∈ y.cps.toList, c < 128 := fun y hy => by
    obtain ⟨i, hi⟩ := List.getElem?_of_mem hy
    obtain ⟨c, d, _, rfl, _, hd⟩ := h i y hi
    exact ⟨rfl, fun c hc => by have : c = d := by simpa using hc
                               rw [this]; exact hd⟩
  have hok : okS (Txt.join ⟨#[]⟩ ys) = true := join_ok (by rw [hl]; exact okS_len hs) h1
  refine ⟨hok, ?_⟩
  rw [low_eq hok, low_eq hs]
  have e := join_nil ys
  congr 1
  apply Array.toList_inj.mp
  rw [Array.toList_map, Array.toList_map, e]
  refine List.ext_getElem? fun i => ?_
  rw [List.getElem?_map, List.getElem?_map]
  have key : ∀ (zs : List Str) (g : Nat → Option Nat), (∀ (i : Nat) (y : Str), zs[i]? = some y → ∃ c d : Nat, g i = some c ∧ y = ⟨#[d]⟩ ∧ PyProof.Rows.lo1 d = PyProof.Rows.lo1 c) → ∀ i, i < zs.length → (zs.flatMap fun y => y.cps.toList)[i]?.map PyProof.Rows.lo1 = (g i).map PyProof.Rows.lo1 := by
    intro zs
    induction zs with
    | nil => intro g _ i hi; simp at hi
    | cons z zs ih =>
      intro g hg i hi
      obtain ⟨c, d, hc, rfl, hcd⟩ := hg 0 z rfl
      rw [List.flatMap_cons]
      cases i with
      | zero =>
        rw [hc]
        show some (PyProof.Rows.lo1 d) = some (PyProof.Rows.lo1 c)
        rw [hcd]
      | succ i =>
        exact ih (fun i => g (i + 1)) (fun i y hy => hg (i + 1) y hy) i (by rw [List.length_cons] at hi; omega)
  rcases Nat.lt_or_ge i ys.length with hi | hi
  · rw [key ys (fun i => s.cps.toList[i]?) (fun i y hy => by obtain ⟨c, d, hc, h2, h3, _⟩ := h i y hy; exact ⟨c, d, by rw [Array.getElem?_toList]; exact hc, h2, h3⟩) i hi]
  · have h2 : (ys.flatMap fun y => y.cps.toList).length = ys.length := by
      rw [← e, Array.length_toList]
      exact join_len fun y hy => (h1 y hy).1
    rw [List.getElem?_eq_none (by omega), List.getElem?_eq_none (by rw [Array.length_toList]; omega)]
section
variable {P : Program} {w : World} {K : PySem.W.Frag} {mg : Str → Option Value} {base : Heap}
theorem ok_other (T : Txt K mg) : FnOk P w K mg base CX0 2 T.l_other_case.f T.l_other_case.fd ["_law_feed", "_law_name"] spOther := by
  refine T.l_other_case.F.ok c_l_other_case (fun vs H Q E h => ?_) (fun cdv A outer sh H vs Q E hr h => ?_)
  · obtain ⟨_, _, _, rfl, _⟩ := h
    rfl
  · obtain ⟨F, L, s, rfl, f, hs, k⟩ := h
    refine ⟨_, pss_one (ps_ret (pe_join pe_str (pe_lc (own := [("_law_sign", 2)]) (g := gName 2) (tt := tYes) (te := tOp (rIxL K) (tLst (tCons (tVar 2) (tCons (tM0 (rCase Txt.upper) (tVar 2)) (tCons (tM0 (rCase Txt.lower) (tVar 2)) tNil)))) (tCall spDraw [] E0 (tCons (tVar 0) (tCons (tC (.int 3)) tNil)))) rfl c_l_other_case.nd
      (pi_str (pv 1)) (blkOk_by (N := n_l_other_case) (sc := defScope s_l_other_case) (by decide +kernel)) (fun _ _ _ _ _ => pg_name (i := 2) c_l_other_case.nd rfl (Or.inl rfl)) (fun _ _ _ _ _ => pts_nil)
      (fun _ _ _ _ _ => pe_ix ix_list (pe_lst (pa_cons (pv 2) (pa_cons (pe_upper (pv 2)) (pa_cons (pe_lower (pv 2)) pa_nil)))) (pe_call (ok_draw T) (by exact hr) rfl T.l_draw.g T.l_draw.F.kp T.l_draw.b .nil pass0 (pa_cons (pv 0) (pa_cons pe_int pa_nil))) (fun _ _ => rfl))))), ?_⟩
    have hsl := okS_len hs
    refine s_retF f (EvF.imp (evf_join (K := K) (p := fun i y => ∃ c d : Nat, s.cps[i]? = some c ∧ y = ⟨#[d]⟩ ∧ PyProof.Rows.lo1 d = PyProof.Rows.lo1 c ∧ d < 128) (evf_lcTxt (walk_str (z := s)) (fun H1 e1 f1 R q => ?_) (fun i x => ∃ c, s.cps[i]? = some c ∧ x = .str ⟨#[c]⟩) (fun i H x H' hi hy => ⟨hy.1, hy.2⟩) (by show s.length ≤ 1000; omega) (fun x => rfl) _ fun i x H1 hi ⟨c, hc, hx⟩ e1 => ?_) (fun i y ⟨c, d, _, hy, _⟩ => by rw [hy]; rfl) (by show s.length ≤ 1000; omega)) fun v H2 e2 ⟨ys, ev, hl, hy⟩ => ?_) k
    · exact ⟨_, rfl, s, rfl, q H1 (ExB.refl _ _) f1⟩
    · subst hx
      have hc1 : c < 128 := okS_all hs c (by have : s.cps.toList[i]? = some c := by rw [Array.getElem?_toList]; exact hc
                                             exact List.mem_of_getElem? this)
      have ok1 : okS (⟨#[c]⟩ : Str) = true := okS_of (fun d hd => by have : d = c := by simpa using hd
                                                                     rw [this]; exact hc1) (by show 1 ≤ 100; decide)
      have hup : Txt.upper (⟨#[c]⟩ : Str) = ⟨#[PyProof.Rows.up1 c]⟩ := by rw [PyProof.Rows.upper_ascii (okS_all ok1)]; simp
      have hlo : Txt.lower (⟨#[c]⟩ : Str) = ⟨#[PyProof.Rows.lo1 c]⟩ := by rw [PyProof.Rows.lower_ascii (okS_all ok1)]; simp
      have hu3 : ∀ P ∈ [fun v _ => v = .str ⟨#[c]⟩, fun v _ => v = .str ⟨#[PyProof.Rows.up1 c]⟩, (fun v _ => v = .str ⟨#[PyProof.Rows.lo1 c]⟩ : V → Hp → Prop)], UpF F P := by
        intro P hP
        simp only [List.mem_cons, List.not_mem_nil, or_false] at hP
        rcases hP with rfl | rfl | rfl <;> exact upf_v _
      refine evf_ixP (Ps := [fun v _ => v = .str ⟨#[c]⟩, fun v _ => v = .str ⟨#[PyProof.Rows.up1 c]⟩, fun v _ => v = .str ⟨#[PyProof.Rows.lo1 c]⟩]) hu3 (evf_lst hu3 (efs_cons (evf_var rfl) (upf_v _) (efs_cons (evf_ev fun H2 e2 => ev_is (ev_case (f := Txt.upper) (ev_var rfl) (by show 1 ≤ 100; decide)) (by rw [hup])) (upf_v _) (efs_cons (evf_ev fun H2 e2 => ev_is (ev_case (f := Txt.lower) (ev_var rfl) (by show 1 ≤ 100; decide)) (by rw [hlo])) (upf_v _) efs_nil))) (by simp)) (evf_drawC (m := 3) rfl) ?_
      intro P hP v H4 hv
      simp only [List.mem_cons, List.not_mem_nil, or_false] at hP
      rcases hP with rfl | rfl | rfl
      · exact ⟨_, hv, c, c, hc, rfl, rfl, hc1⟩
      · exact ⟨_, hv, c, _, hc, rfl, lo_up c, up_lt hc1⟩
      · exact ⟨_, hv, c, _, hc, rfl, lo_lo c, lo1_lt hc1⟩
    · obtain ⟨h1, h2⟩ := same_low hs hl hy
      exact ⟨_, ev, h1, h2⟩
end
end R
/-! W19: some of a list, in an order of the law's -/
namespace R
open PySem L2 Evl
def spSome : Sp := fun vs H Q _ => ∃ F L A many ds, vs = [.ref F, .ref A, .int many] ∧ FeedAt H F L ∧ LstD H A ds ∧ A ≠ F ∧ ds.length ≤ 100 ∧ NestedKey.depthAll ds ≤ 8 ∧
  RetF F L (fun v H' => ∃ p es rest, v = .ref p ∧ H p = none ∧ LstD H' p es ∧ (es ++ rest).Perm ds ∧ ((es.length : Int) < many → rest = [])) H Q
theorem depthAll_le {ds : List D} {n : Nat} : NestedKey.depthAll ds ≤ n ↔ ∀ d ∈ ds, d.depth ≤ n := by
  induction ds with
  | nil => simp [NestedKey.depthAll]
  | cons a ds ih =>
    rw [NestedKey.depthAll]
    constructor
    · intro h d hd
      rcases List.mem_cons.mp hd with e | hd
      · subst e; omega
      · exact ih.mp (by omega) d hd
    · intro h
      have h1 := h a (List.mem_cons_self ..)
      have h2 := ih.mpr fun d hd => h d (List.mem_cons_of_mem _ hd)
      omega
theorem erase_perm {α : Type} : ∀ {xs : List α} {i : Nat} {x : α}, xs[i]? = some x → (x :: xs.eraseIdx i).Perm xs
  | a :: xs, 0, x, h => by cases h; exact List.Perm.refl _
  | a :: xs, i + 1, x, h => by
    show (x :: a :: xs.eraseIdx i).Perm (a :: xs)
    exact (List.Perm.swap a x _).trans ((erase_perm (xs := xs) (i := i) h).cons a)
theorem rpAll_at {H : Hp} {xs : List V} {ds : List D} (h : RpAll H xs ds) {i : Nat} (hi : i < ds.length) : ∃ v, xs[i]? = some v ∧ Rp H v ds[i] := h.getD (List.getElem?_eq_getElem hi)
section
variable {P : Program} {w : World} {K : PySem.W.Frag} {mg : Str → Option Value} {base : Heap}
theorem ok_some (T : Txt K mg) : FnOk P w K mg base CX0 2 T.l_some_of.f T.l_some_of.fd ["_law_feed", "_law_things", "_law_many"] spSome := by
  refine T.l_some_of.F.ok c_l_some_of (fun vs H Q E h => ?_) (fun cdv A outer sh H vs Q E hr h => ?_)
  · obtain ⟨_, _, _, _, _, rfl, _⟩ := h
    rfl
  · obtain ⟨F, L, Ta, many, ds, rfl, f, hT, nTF, hdl, hdd, k⟩ := h
    refine ⟨_, pss_cons (ps_set (i := 3) c_l_some_of.nd rfl (Or.inl rfl) (pe_callTy call_list_of (by rfl) T.z_list (by decide +kernel) (pa_cons (pv 1) pa_nil)))
      (pss_cons (ps_set (i := 4) c_l_some_of.nd rfl (Or.inl rfl) (pe_lst pa_nil))
      (pss_cons (ps_while PassesOwn.never (PW.pt (pw_and (pt_cmpR op_lt (pe_callB call_len_seq (by rfl) T.z_len PySem.boot_len (pa_cons (pv 4) pa_nil)) (pv 2) (nomark _)) (pw_and1 (pt_cmpR (op_neD hr.units) (pv 3) (pe_lst pa_nil) (nomark _)))))
        (pss_one (ps_expr (pe_bm PySem.F.plainAttrs_list PySem.F.slot_list_append PySem.F.type_list_append mt_append (pv 4) (pa_cons
          (pe_bm PySem.F.plainAttrs_list PySem.F.slot_list_pop PySem.F.type_list_pop mt_popAt (pv 3) (pa_cons (pe_call (ok_draw T) hr rfl T.l_draw.g T.l_draw.F.kp T.l_draw.b .nil pass0 (pa_cons (pv 0) (pa_cons (pe_callB call_len_seq (by rfl) T.z_len PySem.boot_len (pa_cons (pv 3) pa_nil)) pa_nil))) pa_nil)) pa_nil)))))
      (pss_one (ps_ret (pv 4))))), ?_⟩
    refine q_asgP (evn_listof (K := K) (evl_var rfl hT)) fun v1 H1 e1 ⟨Le, ev, hLe0, hLe⟩ => ?_
    subst ev
    refine q_asgP (evn_lst eds_nil) fun v2 H2 e2 ⟨Fo, ev, hFo0, hFo⟩ => ?_
    subst ev
    have e12 := e1.trans e2
    have hFoH : H Fo = none := fresh_back e1 hFo0
    have nLF : Le ≠ Fo := fun z => by
      obtain ⟨o, ho⟩ := hLe.some
      rw [z, hFo0] at ho
      cases ho
    have fresh : ∀ {p : Addr}, H p = none → p ≠ F ∧ p ≠ L := fun {p} hp => ⟨fun z => (by obtain ⟨o, ho⟩ := f.at1; rw [← z, hp] at ho; cases ho), fun z => (by obtain ⟨o, ho⟩ := f.atL; rw [← z, hp] at ho; cases ho)⟩
    obtain ⟨l1, l2⟩ := fresh hLe0
    obtain ⟨o1, o2⟩ := fresh hFoH
    refine q_while (fun m σ' H' => ∃ left found, σ' = [some (.ref F), some (.ref Ta), some (.int many), some (.ref Le), some (.ref Fo)] ∧ m = left.length ∧ ExB F H H' ∧ FeedAt H' F L ∧ LstD H' Le left ∧ LstD H' Fo found ∧ (found ++ left).Perm ds) ds.length
      ⟨ds, [], rfl, rfl, ExB.of e12, f.ex e12, hLe.ex e2, hFo, List.Perm.refl _⟩ (fun m σ' H' hw => ?_)
    obtain ⟨left, found, rfl, rfl, x, f', hl, hf, hp⟩ := hw
    have hlen := hp.length_eq
    rw [List.length_append] at hlen
    have hdl' : NestedKey.depthAll left ≤ 8 := depthAll_le.mpr fun d hd => depthAll_le.mp hdd d (hp.mem_iff.mp (List.mem_append.mpr (.inr hd)))
    refine ⟨_, et_and (et_test (ev_op (ev_lenL (evl_var rfl hf)) (ev_var rfl) rv_I0)) (fun _ => et_test (ev_ne_nil (evl_var rfl hl) hdl')), fun hb H3 e3 => ?_, fun hb H3 e3 => ?_⟩
    · rw [Bool.and_eq_true] at hb
      have hne : left ≠ [] := by simpa using hb.2
      have hpos : 0 < left.length := List.length_pos_iff.mpr hne
      refine ⟨_, fun _ _ h => ⟨left.length - 1, by omega, h⟩, ?_⟩
      have hf3 := hf.ex e3
      have hl3 := hl.ex e3
      refine ⟨_, rfl, Or.inl ⟨rfl, _, sq_of hf3.choose_spec.1⟩, ?_⟩
      refine ⟨_, rfl, Or.inl ⟨rfl, _, sq_of hl3.choose_spec.1⟩, ?_⟩
      refine evf_draw (F := F) (L := L) (H := H3) (m := (left.length : Int)) (fun _ _ => ev_var rfl) (fun H4 e4 => ev_lenL (evl_var rfl (hl3.exb e4 l1))) (by omega) (by omega) H3 (ExB.refl _ _) (f'.ex e3) _ fun v H4 e4 f4 hv => ?_
      obtain ⟨j, rfl, j0, j1⟩ := hv.nat (Int.le_refl _)
      have hj : j < left.length := by omega
      obtain ⟨ys, y1, y2⟩ := hl3.exb e4 l1
      obtain ⟨u, hu, ru⟩ := rpAll_at y2 hj
      have hsi : seqIndex? (j : Int) ys.length = some j := by
        unfold seqIndex?
        rw [y2.length]
        have : ¬ ((j : Int) < 0) := by omega
        simp only [this, if_false]
        rw [if_pos (by simp; omega)]
        rfl
      have eb : ExB Le H4 (upd H4 Le (.lst (ys.eraseIdx j))) := ExB.upd fun zs q => by rw [y1] at q; cases q
      have hf4 := (hf3.exb e4 o1).exb eb nLF.symm
      obtain ⟨zs, z1, z2⟩ := id hf4
      have ru' := Rp.tk eb.2 ru
      have eb2 : ExB Fo (upd H4 Le (.lst (ys.eraseIdx j))) (upd (upd H4 Le (.lst (ys.eraseIdx j))) Fo (.lst (zs ++ [u]))) := ExB.upd fun ws q => by rw [z1] at q; cases q
      refine ⟨Le, ys, _, j, u, rfl, rfl, y1, by omega, by omega, hsi, hu, Fo, zs, u, rfl, rfl, z1, sz_lt (by rw [z2.length]; omega), ?_⟩
      refine ⟨left.eraseIdx j, found ++ [left[j]], rfl, by rw [List.length_eraseIdx_of_lt hj], (((x.ex e3).trans e4).mut hLe0 eb).mut hFoH eb2, (f4.exb eb l1.symm l2.symm).exb eb2 o1.symm o2.symm, ?_, ?_, ?_⟩
      · exact ⟨_, by rw [upd_ne nLF, upd_same], ((y2.eraseIdx j).tk eb.2).tk eb2.2⟩
      · exact ⟨_, upd_same, (z2.tk eb2.2).append (.one (Rp.tk eb2.2 ru'))⟩
      · rw [List.append_assoc]
        exact ((erase_perm (List.getElem?_eq_getElem hj)).append_left found).trans hp
    · refine s_retE (evp_ev (P := fun v _ => v = .ref Fo) (ev_var rfl) fun _ _ => rfl) fun v H4 e4 ev => k v H4 ((x.ex e3).ex e4) (f'.ex (e3.trans e4)) ⟨Fo, found, left, ev, hFoH, hf.ex (e3.trans e4), hp, fun hlt => ?_⟩
      have hd : decide ((found.length : Int) < many) = true := decide_eq_true hlt
      rw [hd, Bool.true_and] at hb
      simpa using hb
end
end R
/-! W20: the law's rows -/
namespace R
open PySem L2 Evl
def keyB (b : Bool) (p : Path) : Spot := (p.dropLast, hold b (lst p))
structure RowsOk (b : Bool) (ks : List Path) (mk : Path → Mark) : Prop where
  few : ks.length ≤ 18
  ne : ∀ p ∈ ks, p ≠ []
  len : ∀ p ∈ ks, p.length ≤ 6
  ok : ∀ p ∈ ks, ∀ n ∈ p, okS n = true
  dr : ∀ p ∈ ks, isDr ks mk p.dropLast = true
  keys : (ks.map (keyB b)).Nodup
def spLRows (w : World) : Sp := fun vs H Q _ => ∃ F L b most, vs = [.ref F, .bl b, .int most] ∧ FeedAt H F L ∧ 0 ≤ most ∧ most ≤ 18 ∧
  RetF F L (fun v H' => ∃ p ks mk, v = .ref p ∧ H p = none ∧ LstD H' p (rowsD ks mk) ∧ RowsOk b ks mk) H Q
def markV : Mark → V
  | none => .non
  | some i => .int i
theorem rp_mark (H : Hp) (m : Mark) : Rp H (markV m) (mkk m) := by cases m; exact .non; exact .int _
section
variable {F L : Addr} {K : PySem.W.Frag} {σ : L2.St} {H : Hp} {ta te : TE} {N : Ends} {tu tz : TS}
theorem q_forRF {j : Nat} {m : Int} (f : FeedAt H F L) (h : EvF F L te σ H (IsN 0 m)) (hm : m ≤ 1000) (Pv : Nat → L2.St → Hp → Prop) (h0 : ∀ H1, ExB F H H1 → FeedAt H1 F L → Pv 0 σ H1)
    (hs : ∀ (i : Nat) σ' H', (i : Int) + 1 < m → Pv i σ' H' → tu { N with nx := Pv (i + 1), ct := Pv (i + 1), bk := tz N } (σ'.set j (some (.int (i : Int)))) H') (hd : ∀ (n : Nat) σ' H', (n : Int) < m → Pv n σ' H' → tz N σ' H') : tSeq (tFor (iRng1 (tCons te tNil)) (gName j) tu) tz N σ H :=
  h H (ExB.refl _ _) f _ fun v H1 e1 f1 hv => by
    obtain ⟨n, rfl, n0, n1⟩ := hv.nat (Int.le_refl _)
    refine ⟨(n : Int), rfl, by omega, by omega, for_range (lo := 0) (n := ((n : Int)).toNat) Pv (h0 H1 e1 f1) (fun i σ' H' hi p => ?_) (fun σ' H' p => hd n σ' H' n1 p)⟩
    have e0 : (0 : Int) + (i : Int) = (i : Int) := Int.zero_add _
    show tu { N with nx := Pv (i + 1), ct := Pv (i + 1), bk := tz N } (σ'.set j (some (.int ((0 : Int) + (i : Int))))) H'
    rw [e0]
    exact hs i σ' H' (by have : i < n := hi; omega) p
/-- xs[a draw], xs a list of data that stands -/
theorem evf_ixD {a : Addr} {ds : List D} (hl : LstD H a ds) (ha : a ≠ F) (h : ∀ H1, ExB F H H1 → Ev ta σ H1 (.ref a)) (hb : EvF F L te σ H (IsN 0 ds.length)) : EvF F L (tOp (rIxL K) ta te) σ H (fun v H' => ∃ d ∈ ds, Rp H' v d) :=
  evf_op (evf_ev h) (upf_v _) hb fun x y H1 e1 px py Q q => by
    subst px
    obtain ⟨j, rfl, j0, j1⟩ := py.nat (Int.le_refl _)
    obtain ⟨xs, h1, h2⟩ := hl.exb e1 ha
    have hj : j < ds.length := by omega
    obtain ⟨u, hu, ru⟩ := rpAll_at h2 hj
    exact ⟨a, xs, _, u, rfl, rfl, SqL.of h1, atI_nat hu, q _ H1 (Ex.refl _) ⟨_, List.getElem_mem hj, ru⟩⟩
end
theorem rowsD_snoc {ks : List Path} {mk : Path → Mark} {p : Path} {m : Mark} (h : p ∉ ks) : rowsD (ks ++ [p]) (fput mk p m) = rowsD ks mk ++ [pr (pk p) (mkk m)] := by
  unfold rowsD
  rw [List.map_append, List.map_cons, List.map_nil, fput_same]
  congr 1
  refine List.map_congr_left fun q hq => ?_
  rw [fput_ne fun e : q = p => h (e ▸ hq)]
theorem isDr_snoc {ks : List Path} {mk : Path → Mark} {p q : Path} {m : Mark} (h : p ∉ ks) (hq : isDr ks mk q = true) : isDr (ks ++ [p]) (fput mk p m) q = true := by
  rcases isDr_or hq with e | ⟨h1, h2⟩
  · unfold isDr
    rw [e]
    simp
  · have hne : q ≠ p := fun e => h (e ▸ h1)
    unfold isDr
    rw [fput_ne hne]
    simp [h1, h2]
section
variable {P : Program} {w : World} {K : PySem.W.Frag} {mg : Str → Option Value} {base : Heap}
theorem ok_lrows (T : Txt K mg) : FnOk P w K mg base CX0 4 T.l_rows.f T.l_rows.fd ["_law_feed", "_law_blind", "_law_most"] (spLRows w) := by
  refine T.l_rows.F.ok c_l_rows (fun vs H Q E h => ?_) (fun cdv A outer sh H vs Q E hr h => ?_)
  · obtain ⟨_, _, _, _, rfl, _⟩ := h
    rfl
  · obtain ⟨F, L, b, most, rfl, f, hm0, hm1, k⟩ := h
    have hr1 : Room 1 _ := hr.mono (by decide)
    have hr9 := room9 hr
    refine ⟨_, pss_cons (ps_set (i := 3) c_l_rows.nd rfl (Or.inl rfl) (pe_lst pa_nil))
      (pss_cons (ps_set (i := 4) c_l_rows.nd rfl (Or.inl rfl) (pe_lst (pa_cons (pe_tup pa_nil) pa_nil)))
      (pss_cons (ps_set (i := 5) c_l_rows.nd rfl (Or.inl rfl) pe_dnewN)
      (pss_cons (ps_for PassesOwn.never rfl (pi_range1 rfl T.z_range (pa_cons (pe_call (ok_draw T) hr1 rfl T.l_draw.g T.l_draw.F.kp T.l_draw.b .nil pass0 (pa_cons (pv 0) (pa_cons (pe_op op_add (pv 2) pe_int) pa_nil))) pa_nil)) (pg_name (i := 6) c_l_rows.nd rfl (Or.inl rfl))
        (pss_cons (ps_set (i := 7) c_l_rows.nd rfl (Or.inl rfl) (pe_ix ix_list (pv 4) (pe_call (ok_draw T) hr1 rfl T.l_draw.g T.l_draw.F.kp T.l_draw.b .nil pass0 (pa_cons (pv 0) (pa_cons (pe_callB call_len_seq (by rfl) T.z_len PySem.boot_len (pa_cons (pv 4) pa_nil)) pa_nil))) (fun _ _ => rfl)))
        (pss_cons (ps_set (i := 8) c_l_rows.nd rfl (Or.inl rfl) (pe_call (ok_a_name T) hr rfl T.l_a_name.g T.l_a_name.F.kp T.l_a_name.b .nil pass0 (pa_cons (pv 0) pa_nil)))
        (pss_cons (ps_set (i := 9) c_l_rows.nd rfl (Or.inl rfl) (pe_ix ix_list (pe_lst (pa_cons pe_non (pa_cons pe_int (pa_cons (pe_call (ok_draw T) hr1 rfl T.l_draw.g T.l_draw.F.kp T.l_draw.b .nil pass0 (pa_cons (pv 0) (pa_cons pe_int pa_nil)))
            (pa_cons (pe_call (ok_draw T) hr1 rfl T.l_draw.g T.l_draw.F.kp T.l_draw.b .nil pass0 (pa_cons (pv 0) (pa_cons (pe_op op_add (pe_op op_pow pe_int pe_int) pe_int) pa_nil))) pa_nil)))))
            (pe_call (ok_draw T) hr1 rfl T.l_draw.g T.l_draw.F.kp T.l_draw.b .nil pass0 (pa_cons (pv 0) (pa_cons pe_int pa_nil))) (fun _ _ => rfl)))
        (pss_one (ps_if (PW.pt (pw_and (pt_cmpR op_lt (pe_callB call_len_seq (by rfl) T.z_len PySem.boot_len (pa_cons (pv 7) pa_nil)) pe_int (nomark _)) (pw_and1 (pt_cmpR (op_notinN hr9) (pe_tup (pa_cons (pv 7) (pa_cons (pe_call (ok_fold T) hr1 rfl T.l_fold.g T.l_fold.F.kp T.l_fold.b .nil pass0 (pa_cons (pv 8) (pa_cons (pv 1) pa_nil))) pa_nil))) (pv 5) rfl))))
          (pss_cons (ps_dputN hr9 (pv 5) (pe_tup (pa_cons (pv 7) (pa_cons (pe_call (ok_fold T) hr1 rfl T.l_fold.g T.l_fold.F.kp T.l_fold.b .nil pass0 (pa_cons (pv 8) (pa_cons (pv 1) pa_nil))) pa_nil))) pe_bl)
          (pss_cons (ps_expr (pe_bm PySem.F.plainAttrs_list PySem.F.slot_list_append PySem.F.type_list_append mt_append (pv 3) (pa_cons (pe_tup (pa_cons (pe_op op_catA (pv 7) (pe_tup (pa_cons (pv 8) pa_nil))) (pa_cons (pv 9) pa_nil))) pa_nil)))
          (pss_one (ps_if (pt_cmp (pc_isN (pv 9))) (pss_one (ps_expr (pe_bm PySem.F.plainAttrs_list PySem.F.slot_list_append PySem.F.type_list_append mt_append (pv 4) (pa_cons (pe_op op_catA (pv 7) (pe_tup (pa_cons (pv 8) pa_nil))) pa_nil)))) pss_nil)))) pss_nil))))))
      (pss_one (ps_ret (pv 3)))))), ?_⟩
    refine q_asgP (evn_lst eds_nil) fun v1 H1 e1 ⟨R0, ev, hR0, hR⟩ => ?_
    subst ev
    refine q_asgP (evn_lst (eds_cons evd_nilP eds_nil) (by simp)) fun v2 H2 e2 ⟨Dr, ev, hD0, hD⟩ => ?_
    subst ev
    refine q_newD fun td H3 ht0 e3 ⟨ot, hot⟩ => ?_
    have e12 := e1.trans e2
    have e13 := e12.trans e3
    have hDH : H Dr = none := fresh_back e1 hD0
    have htH : H td = none := fresh_back e12 ht0
    have fresh : ∀ {p : Addr}, H p = none → p ≠ F ∧ p ≠ L := fun {p} hp => ⟨fun z => (by obtain ⟨o, ho⟩ := f.at1; rw [← z, hp] at ho; cases ho), fun z => (by obtain ⟨o, ho⟩ := f.atL; rw [← z, hp] at ho; cases ho)⟩
    obtain ⟨r1, r2⟩ := fresh hR0
    obtain ⟨d1, d2⟩ := fresh hDH
    obtain ⟨t1, t2⟩ := fresh htH
    have nRD : R0 ≠ Dr := fun z => by obtain ⟨o, ho⟩ := hR.some; rw [z, hD0] at ho; cases ho
    have nRt : R0 ≠ td := fun z => by obtain ⟨o, ho⟩ := (hR.ex e2).some; rw [z, ht0] at ho; cases ho
    have nDt : Dr ≠ td := fun z => by obtain ⟨o, ho⟩ := hD.some; rw [z, ht0] at ho; cases ho
    refine q_forRF (f.ex e13) (m := most + 1) (evf_draw (fun _ _ => ev_var rfl) (fun _ _ => ev_op (ev_var rfl) ev_c rv_I0) (by omega) (by omega)) (by omega)
      (fun i σ' H' => (∃ z1 z2 z3 z4, σ' = [some (.ref F), some (.bl b), some (.int most), some (.ref R0), some (.ref Dr), some (.ref td), z1, z2, z3, z4]) ∧ ExB F H H' ∧ FeedAt H' F L ∧ ∃ ks mk dl, LstD H' R0 (rowsD ks mk) ∧ LstD H' Dr (dl.map pk) ∧ Ky eS w H' td (ks.map (keyB b)) ∧ dl ≠ [] ∧ dl.length ≤ i + 1 ∧ (∀ d ∈ dl, isDr ks mk d = true) ∧ ks.length ≤ i ∧
        (∀ p ∈ ks, p ≠ []) ∧ (∀ p ∈ ks, p.length ≤ 6) ∧ (∀ p ∈ ks, ∀ n ∈ p, okS n = true) ∧ (∀ p ∈ ks, isDr ks mk p.dropLast = true) ∧ (ks.map (keyB b)).Nodup)
      (fun H4 e4 f4 => ⟨⟨_, _, _, _, rfl⟩, (ExB.of e13).trans e4, f4, [], fun _ => none, [[]], (hR.ex (e2.trans e3)).exb e4 r1, (hD.ex e3).exb e4 d1, (ky_new hot).exb e4 t1, by simp, by simp, fun d hd => by rw [List.mem_singleton.mp hd]; rfl, Nat.le_refl _, (fun p hp => by cases hp), (fun p hp => by cases hp), (fun p hp => by cases hp), (fun p hp => by cases hp), List.nodup_nil⟩)
      (fun i σ' H' hi hp => ?_) (fun n σ' H' hn hp => ?_)
    · obtain ⟨⟨z1, z2, z3, z4, rfl⟩, x, f', ks, mk, dl, hRl, hDl, hky, hdne, hdl, hdr, hkl, p1, p2, p3, p4, p5⟩ := hp
      have hdpos : 0 < dl.length := List.length_pos_iff.mpr hdne
      refine q_asgF f' (evf_ixD (K := K) hDl d1 (fun _ _ => ev_var rfl) (evf_draw (fun _ _ => ev_var rfl) (fun H4 e4 => ev_lenL (evl_var rfl (hDl.exb e4 d1))) (by rw [List.length_map]; omega) (by rw [List.length_map]; omega))) fun vd H4 e4 f4 ⟨dd, hdd, rd⟩ => ?_
      obtain ⟨d, hd, rfl⟩ := List.mem_map.mp hdd
      refine q_asgF f4 (evf_call (P := IsT fun r => okS r = true) (Ps := [fun v _ => v = .ref F]) (efs_cons (evf_var rfl) (upf_v _) efs_nil) fun H5 vs e5 f5 ha Q' q => ?_) fun vn H5 e5 f5 ⟨nm, ev, hnm⟩ => ?_
      · obtain ⟨_, rfl, rfl⟩ := ps1 ha
        exact ⟨F, L, rfl, f5, q⟩
      subst ev
      have hu4 : ∀ P ∈ [fun v _ => v = .non, fun v _ => v = .int 0, IsN 0 3, IsN 0 (10 ^ (9 : Int).toNat + 1)], UpF F P := by
        intro P hP
        simp only [List.mem_cons, List.not_mem_nil, or_false] at hP
        rcases hP with rfl | rfl | rfl | rfl
        · exact upf_v _
        · exact upf_v _
        · exact upf_n _ _ _
        · exact upf_n _ _ _
      refine q_asgF f5 (evf_ixP (K := K) (S := fun v _ => ∃ m : Mark, v = markV m) hu4 (evf_lst hu4 (efs_cons evf_c (upf_v _) (efs_cons evf_c (upf_v _) (efs_cons (evf_drawC rfl) (upf_n _ _ _) (efs_cons (evf_draw (fun _ _ => ev_var rfl) (fun _ _ => ev_op (ev_op ev_c ev_c (rv_I ⟨by decide, by decide, by decide⟩)) ev_c rv_I0) (by decide) (by decide)) (upf_n _ _ _) efs_nil)))) (by simp)) (evf_drawC (m := 4) rfl) ?_) fun vm H6 e6 f6 ⟨m, ev⟩ => ?_
      · intro P hP v H7 hv
        simp only [List.mem_cons, List.not_mem_nil, or_false] at hP
        rcases hP with rfl | rfl | rfl | rfl
        · exact ⟨none, hv⟩
        · exact ⟨some 0, hv⟩
        · obtain ⟨n, hv, _⟩ := hv; exact ⟨some n, hv⟩
        · obtain ⟨n, hv, _⟩ := hv; exact ⟨some n, hv⟩
      subst ev
      have x46 := (e4.trans e5).trans e6
      have rd6 := (rd.tk e5.2).tk e6.2
      have hR6 := hRl.exb x46 r1
      have hD6 := hDl.exb x46 d1
      have hk6 := hky.exb x46 t1
      have x6 := x.trans x46
      have key : ∀ H7, Tk H6 H7 → EvD (tTup (tCons (tVar 7) (tCons (tCall spFold [] E0 (tCons (tVar 8) (tCons (tVar 1) tNil))) tNil))) [some (V.ref F), some (.bl b), some (.int most), some (.ref R0), some (.ref Dr), some (.ref td), some (.int (i : Int)), some vd, some (.str nm), some (markV m)] H7 (eS.e (d, hold b nm)) := fun H7 t7 =>
        evd_tup (eds_cons (evd_var rfl (rd6.tk t7)) (eds_cons (evd_txt (ev_call (ea_cons (ev_var rfl) (ea_cons (ev_var rfl) ea_nil)) fun H8 e8 Q' q E' => ⟨_, _, rfl, okS_len hnm, q⟩) (okS_hold hnm)) eds_nil)) (by simp)
      refine s_when (et_and (et_test (ev_op (ev_lenT (evd_var rfl rd6)) ev_c rv_I0)) (fun _ => et_test (ev_notin (E := eS) (key H6 (Tk.refl _)) (keyD_eS _) (ev_var rfl) hk6))) (fun hb H7 e7 => ?_) (fun hb H7 e7 => ?_)
      · rw [Bool.and_eq_true] at hb
        have hlen : d.length < 6 := by
          have := of_decide_eq_true hb.1
          rw [List.length_map] at this
          omega
        have hnk : (d, hold b nm) ∉ ks.map (keyB b) := by simpa using hb.2
        have hkp : keyB b (d ++ [nm]) = (d, hold b nm) := by unfold keyB; rw [List.dropLast_concat, lst_snoc]
        have hpn : d ++ [nm] ∉ ks := fun h => hnk (hkp ▸ List.mem_map.mpr ⟨_, h, rfl⟩)
        refine q_putK (E := eS) (p := (d, hold b nm)) (ev_c (v := .bl true)) (ev_var rfl) (key H7 (Tk.of e7)) (keyD_eS _) (hk6.ex e7) (by rw [List.length_map]; omega) fun H8 e8 hk8 => ?_
        have rd8 := (rd6.ex e7).tk e8.2
        have evp : ∀ H9, Tk H8 H9 → EvD (tOp (rCatA K) (tVar 7) (tTup (tCons (tVar 8) tNil))) [some (V.ref F), some (.bl b), some (.int most), some (.ref R0), some (.ref Dr), some (.ref td), some (.int (i : Int)), some vd, some (.str nm), some (markV m)] H9 (pk (d ++ [nm])) := fun H9 t9 =>
          evd_snoc (evd_var rfl (rd8.tk t9)) (evd_txt (ev_var rfl) hnm) (by omega)
        have rlen : (rowsD ks mk).length = ks.length := by unfold rowsD; rw [List.length_map]
        refine q_appD (d := pr (pk (d ++ [nm])) (mkk m)) ((hR6.ex e7).exb e8 nRt) (ev_var rfl) (evd_tup (eds_cons (evp H8 (Tk.refl _)) (eds_cons (evd_var rfl (rp_mark _ m)) eds_nil)) (by simp)) (by omega) fun H9 e9 hR9 => ?_
        have x9 : ExB F H H9 := ((x6.ex e7).mut htH e8).mut hR0 e9
        have f9 := ((f6.ex e7).exb e8 t1.symm t2.symm).exb e9 r1.symm r2.symm
        have hD9 := ((hD6.ex e7).exb e8 nDt).exb e9 nRD.symm
        have hk9 := hk8.exb e9 nRt.symm
        have hkk : kins (ks.map (keyB b)) (d, hold b nm) = (ks ++ [d ++ [nm]]).map (keyB b) := by rw [kins_new hnk, List.map_append, List.map_cons, List.map_nil, hkp]
        rw [hkk] at hk9
        have hrows := rowsD_snoc (mk := mk) (m := m) hpn
        rw [← hrows] at hR9
        have hdd := hdr d hd
        have q1 : ∀ p ∈ ks ++ [d ++ [nm]], p ≠ [] := fun p hp => by
          rcases List.mem_append.mp hp with h | h
          · exact p1 p h
          · rw [List.mem_singleton.mp h]; simp
        have q2 : ∀ p ∈ ks ++ [d ++ [nm]], p.length ≤ 6 := fun p hp => by
          rcases List.mem_append.mp hp with h | h
          · exact p2 p h
          · rw [List.mem_singleton.mp h]; simp; omega
        have q3 : ∀ p ∈ ks ++ [d ++ [nm]], ∀ n ∈ p, okS n = true := fun p hp n hn => by
          rcases List.mem_append.mp hp with h | h
          · exact p3 p h n hn
          · rw [List.mem_singleton.mp h] at hn
            rcases List.mem_append.mp hn with h | h
            · exact rd6.names n h
            · rw [List.mem_singleton.mp h]; exact hnm
        have q4 : ∀ p ∈ ks ++ [d ++ [nm]], isDr (ks ++ [d ++ [nm]]) (fput mk (d ++ [nm]) m) p.dropLast = true := fun p hp => by
          rcases List.mem_append.mp hp with h | h
          · exact isDr_snoc hpn (p4 p h)
          · rw [List.mem_singleton.mp h, List.dropLast_concat]
            exact isDr_snoc hpn hdd
        have q5 : ((ks ++ [d ++ [nm]]).map (keyB b)).Nodup := hkk ▸ nodup_kins p5
        refine s_when (et_B (ev_isN (evd_var rfl (rp_mark _ m)))) (fun hb H10 e10 => ?_) (fun hb H10 e10 => ?_)
        · have hmn : m = none := by rw [mk_none] at hb; exact of_decide_eq_true hb
          refine s_appD (d := pk (d ++ [nm])) (hD9.ex e10) (ev_var rfl) (evp H10 (e9.2.trans (Tk.of e10))) (by rw [List.length_map]; omega) fun H11 e11 hD11 => ?_
          refine ⟨⟨_, _, _, _, rfl⟩, (x9.ex e10).mut hDH e11, (f9.ex e10).exb e11 d1.symm d2.symm, ks ++ [d ++ [nm]], fput mk (d ++ [nm]) m, dl ++ [d ++ [nm]], (hR9.ex e10).exb e11 nRD, ?_, (hk9.ex e10).exb e11 nDt.symm, by simp, by simp; omega, fun q hq => ?_, by simp; omega, q1, q2, q3, q4, q5⟩
          · rw [List.map_append]
            exact hD11
          · rcases List.mem_append.mp hq with h | h
            · exact isDr_snoc hpn (hdr q h)
            · rw [List.mem_singleton.mp h]
              unfold isDr
              rw [fput_same, hmn]
              simp
        · exact ⟨⟨_, _, _, _, rfl⟩, x9.ex e10, f9.ex e10, ks ++ [d ++ [nm]], fput mk (d ++ [nm]) m, dl, hR9.ex e10, hD9.ex e10, hk9.ex e10, hdne, by omega, fun q hq => isDr_snoc hpn (hdr q hq), by simp; omega, q1, q2, q3, q4, q5⟩
      · exact ⟨⟨_, _, _, _, rfl⟩, x6.ex e7, f6.ex e7, ks, mk, dl, hR6.ex e7, hD6.ex e7, hk6.ex e7, hdne, by omega, hdr, by omega, p1, p2, p3, p4, p5⟩
    · obtain ⟨⟨z1, z2, z3, z4, rfl⟩, x, f', ks, mk, dl, hRl, hDl, hky, hdne, hdl, hdr, hkl, p1, p2, p3, p4, p5⟩ := hp
      exact s_retE (evp_ev (P := fun v _ => v = .ref R0) (ev_var rfl) fun _ _ => rfl) fun v H4 e4 ev => k v H4 (x.ex e4) (f'.ex e4) ⟨R0, ks, mk, ev, hR0, hRl.ex e4, ⟨by omega, p1, p2, p3, p4, p5⟩⟩
end
end R
/-! W21: a place that is free -/
namespace R
open PySem L2 Evl
def FreeRes (w : World) (ks : List Path) (mk : Path → Mark) (p : Path) (b : Bool) (gk : List Spot) (td : Addr) (v : V) (H : Hp) : Prop :=
  (v = .non ∧ Ky eS w H td gk) ∨ ∃ d nm, Rp H v (pk (d ++ [nm])) ∧ okS nm = true ∧ isDr ks mk d = true ∧ d.length ≤ 5 ∧ (mk p = none → d = p.dropLast) ∧ (d, hold b nm) ∉ gk ∧ Ky eS w H td (gk ++ [(d, hold b nm)])
def spFree (w : World) : Sp := fun vs H Q _ => ∃ F L md v td b ks mk p gk, vs = [.ref F, .ref md, v, .ref td, .bl b] ∧ FeedAt H F L ∧ Fd eP w H md ks (fun p => mkk (mk p)) ∧ Ky eS w H td gk ∧ Rp H v (pk p) ∧ p ∈ ks ∧ (∀ q ∈ ks, q ≠ []) ∧ (∀ q ∈ ks, q.length ≤ 6) ∧ (∀ q ∈ ks, isDr ks mk q.dropLast = true) ∧ ks.length ≤ 18 ∧ gk.length ≤ 1000 ∧
  ∀ v' H2, ExS td F H H2 → FeedAt H2 F L → FreeRes w ks mk p b gk td v' H2 → Q v' H2
section
variable {P : Program} {w : World} {K : PySem.W.Frag} {mg : Str → Option Value} {base : Heap}
theorem ok_free (T : Txt K mg) : FnOk P w K mg base CX0 4 T.l_free_place.f T.l_free_place.fd ["_law_feed", "_law_marks", "_law_path", "_law_taken", "_law_blind"] (spFree w) := by
  refine T.l_free_place.F.ok c_l_free_place (fun vs H Q E h => ?_) (fun cdv A outer sh H vs Q E hr h => ?_)
  · obtain ⟨_, _, _, _, _, _, _, _, _, _, rfl, _⟩ := h
    rfl
  · obtain ⟨F, L, md, v, td, b, ks, mk, p, gk, rfl, f, hm, ht, rv, hp, hne, hlen, hdr, hfew, hgl, k⟩ := h
    have hr1 : Room 1 _ := hr.mono (by decide)
    have hr9 := room9 hr
    refine ⟨_, pss_cons (ps_set (i := 5) c_l_free_place.nd rfl (Or.inl rfl) (pe_slice sl_tupA (pv 2) po_none (po_some (pe_un un_neg pe_int))))
      (pss_cons (ps_set (i := 6) c_l_free_place.nd rfl (Or.inl rfl) (pe_op op_cat (pe_lst (pa_cons (pe_tup pa_nil) pa_nil))
        (pe_lc (own := [("_law_one", 9)]) (g := gName 9) (tt := tAnd (tB (tIsN (tOp (rGetN w) (tVar 1) (tVar 9)))) (tTest (tOp (rI0 fun i j => .bl (decide (i < j))) (tCB (rLenS K) (tCons (tVar 9) tNil)) (tC (.int 6))))) (te := tVar 9) rfl c_l_free_place.nd
          (pi_list (pe_callB (call_sortedN rfl hr9) (by rfl) T.z_sorted (by decide +kernel) (pa_cons (pv 1) pa_nil))) (blkOk_by (N := n_l_free_place) (sc := defScope s_l_free_place) (by decide +kernel)) (fun _ _ _ _ _ => pg_name (i := 9) c_l_free_place.nd rfl (Or.inl rfl))
          (fun _ _ _ _ _ => pts_one (PW.pt (pw_and (pt_cmp (pc_isN (pe_dgetN (by exact hr9) (pv 1) (pv 9)))) (pw_and1 (pt_cmpR op_lt (pe_callB call_len_seq (by rfl) T.z_len PySem.boot_len (pa_cons (pv 9) pa_nil)) pe_int (nomark _)))))) (fun _ _ _ _ _ => pv 9))))
      (pss_cons (ps_if (PW.pt (pw_and (pt_cmp (pc_notN (pe_dgetN hr9 (pv 1) (pv 2)))) (pw_and1 (pt_cmpR op_eq (pe_call (ok_draw T) hr1 rfl T.l_draw.g T.l_draw.F.kp T.l_draw.b .nil pass0 (pa_cons (pv 0) (pa_cons pe_int pa_nil))) pe_int (nomark _)))))
        (pss_one (ps_set (i := 5) c_l_free_place.nd rfl (Or.inl rfl) (pe_ix ix_list (pv 6) (pe_call (ok_draw T) hr1 rfl T.l_draw.g T.l_draw.F.kp T.l_draw.b .nil pass0 (pa_cons (pv 0) (pa_cons (pe_callB call_len_seq (by rfl) T.z_len PySem.boot_len (pa_cons (pv 6) pa_nil)) pa_nil))) (fun _ _ => rfl)))) pss_nil)
      (pss_cons (ps_for PassesOwn.never rfl (pi_range1 rfl T.z_range (pa_cons pe_int pa_nil)) (pg_name (i := 7) c_l_free_place.nd rfl (Or.inl rfl))
        (pss_cons (ps_set (i := 8) c_l_free_place.nd rfl (Or.inl rfl) (pe_call (ok_a_name T) hr rfl T.l_a_name.g T.l_a_name.F.kp T.l_a_name.b .nil pass0 (pa_cons (pv 0) pa_nil)))
        (pss_one (ps_if (pt_cmpR (op_notinN hr9) (pe_tup (pa_cons (pv 5) (pa_cons (pe_call (ok_fold T) hr1 rfl T.l_fold.g T.l_fold.F.kp T.l_fold.b .nil pass0 (pa_cons (pv 8) (pa_cons (pv 4) pa_nil))) pa_nil))) (pv 3) rfl)
          (pss_cons (ps_dputN hr9 (pv 3) (pe_tup (pa_cons (pv 5) (pa_cons (pe_call (ok_fold T) hr1 rfl T.l_fold.g T.l_fold.F.kp T.l_fold.b .nil pass0 (pa_cons (pv 8) (pa_cons (pv 4) pa_nil))) pa_nil))) pe_bl)
          (pss_one (ps_ret (pe_op op_catA (pv 5) (pe_tup (pa_cons (pv 8) pa_nil)))))) pss_nil))))
      (pss_one (ps_ret pe_non))))), ?_⟩
    have nmF : md ≠ F := fun z => by obtain ⟨o, ho⟩ := hm.at; obtain ⟨⟨c, g, h1⟩, _, _⟩ := f; rw [z, h1] at ho; cases ho
    have ntF : td ≠ F := fun z => by obtain ⟨o, ho⟩ := ht.at; obtain ⟨⟨c, g, h1⟩, _, _⟩ := f; rw [z, h1] at ho; cases ho
    have ntL : td ≠ L := fun z => by obtain ⟨o, ho⟩ := ht.at; obtain ⟨_, ⟨ns, h1⟩, _⟩ := f; exact lst_no (z ▸ h1) ho
    refine q_asgP (evd_init (evd_var rfl rv)) fun v0 H1 e1 r0 => ?_
    refine q_asgP (evn_cat (EvN.any (evn_lst (eds_cons evd_nilP eds_nil) (by simp))) (EvN.any (evn_lcA (e := pk) (as := sortP ks) (EvN.any (evn_sortK (ev_var rfl) (hm.ex e1).ky hne (by omega))) (by rw [sortP_len]; omega) (fun q => if mk q = none ∧ q.length < 6 then some (pk q) else none) (fun x q H2 hq e2 rx => ?_) (fun _ _ _ _ _ => g_mono_name))) ?_) fun v1 H2 e2 ⟨Dr, ev, hD0, hD⟩ => ?_
    · have hq' := mem_sortP.mp hq
      refine ⟨Ex.refl _, rfl, _, et_and (et_B (ev_isN (ev_get (E := eP) (p := q) (f := fun p => mkk (mk p)) (ev_var rfl) (hm.ex (e1.trans e2)) (evd_var rfl rx) (keyD_pk q) hq'))) (fun _ => et_test (ev_op (ev_lenT (evd_var rfl rx)) ev_c rv_I0)), fun hb => ⟨pk q, ?_, evd_var rfl rx⟩, fun hb => ?_⟩
      · rw [Bool.and_eq_true, mk_none, List.length_map] at hb
        rw [if_pos ⟨of_decide_eq_true hb.1, by have := of_decide_eq_true hb.2; omega⟩]
      · rw [if_neg]
        rintro ⟨h1, h2⟩
        rw [mk_none, List.length_map] at hb
        have : ((q.length : Nat) : Int) < 6 := by omega
        simp [h1, this] at hb
    · have := List.length_filterMap_le (fun q => if mk q = none ∧ q.length < 6 then some (pk q) else none) (sortP ks)
      rw [sortP_len] at this
      simp
      omega
    subst ev
    -- the drawers
    have e12 := e1.trans e2
    generalize hds : (([pk []] : List D) ++ (sortP ks).filterMap fun q => if mk q = none ∧ q.length < 6 then some (pk q) else none) = ds at hD
    have hDH : H Dr = none := fresh_back e1 hD0
    have hdm : ∀ d ∈ ds, ∃ q, d = pk q ∧ isDr ks mk q = true ∧ q.length ≤ 5 := fun d hd => by
      rw [← hds] at hd
      rcases List.mem_append.mp hd with h | h
      · exact ⟨[], List.mem_singleton.mp h, rfl, by simp⟩
      · obtain ⟨q, hq, he⟩ := List.mem_filterMap.mp h
        split at he
        · rename_i hc
          cases he
          refine ⟨q, rfl, ?_, by omega⟩
          unfold isDr
          simp [mem_sortP.mp hq, hc.1]
        · cases he
    have hdpos : 0 < ds.length ∧ ds.length ≤ 40 := by
      rw [← hds]
      have := List.length_filterMap_le (fun q => if mk q = none ∧ q.length < 6 then some (pk q) else none) (sortP ks)
      rw [sortP_len] at this
      simp
      omega
    have nDF : Dr ≠ F := fun z => by obtain ⟨o, ho⟩ := f.at1; rw [← z, hDH] at ho; cases ho
    -- the rest, from a drawer
    have rest : ∀ (σ : L2.St) (H3 : Hp) (d : Path) (vd : V), σ = [some (V.ref F), some (.ref md), some v, some (.ref td), some (.bl b), some vd, some (.ref Dr), none, none, none] → ExB F H H3 → FeedAt H3 F L → Rp H3 vd (pk d) → isDr ks mk d = true → d.length ≤ 5 → (mk p = none → d = p.dropLast) →
        tSeq (tFor (iRng1 (tCons (tC (.int 4)) tNil)) (gName 7) (tSeq (tAsg (tCall spName [] E0 (tCons (tVar 0) tNil)) (gName 8)) (tIfS (tTest (tOp (rInN w true) (tTup (tCons (tVar 5) (tCons (tCall spFold [] E0 (tCons (tVar 8) (tCons (tVar 4) tNil))) tNil))) (tVar 3)))
          (tSeq (sDPutN w (tVar 3) (tTup (tCons (tVar 5) (tCons (tCall spFold [] E0 (tCons (tVar 8) (tCons (tVar 4) tNil))) tNil))) (tC (.bl true))) (tRet (tOp (rCatA K) (tVar 5) (tTup (tCons (tVar 8) tNil))))) tNext))) (tRet (tC .non)) { nx := fun _ H' => Q .non H', rt := Q } σ H3 := fun σ H3 d vd hσ x3 f3 rd hd hdl hfix => by
      subst hσ
      refine q_forR1 (n := 4) (ea_cons ev_c ea_nil) (by decide) (fun i σ' H' => (∃ z1 z2, σ' = [some (V.ref F), some (.ref md), some v, some (.ref td), some (.bl b), some vd, some (.ref Dr), z1, z2, none]) ∧ ExB F H3 H' ∧ FeedAt H' F L)
        (fun H4 e4 => ⟨⟨_, _, rfl⟩, ExB.of e4, f3.ex e4⟩) (fun i σ' H' hi hp => ?_) (fun σ' H' hp => ?_)
      · obtain ⟨⟨z1, z2, rfl⟩, x4, f4⟩ := hp
        refine q_asgF f4 (evf_call (P := IsT fun r => okS r = true) (Ps := [fun v _ => v = .ref F]) (efs_cons (evf_var rfl) (upf_v _) efs_nil) fun H5 vs e5 f5 ha Q' q => ?_) fun vn H5 e5 f5 ⟨nm, ev, hnm⟩ => ?_
        · obtain ⟨_, rfl, rfl⟩ := ps1 ha
          exact ⟨F, L, rfl, f5, q⟩
        subst ev
        have x35 := x4.trans e5
        have ht5 := (ht.exb x3 ntF).exb x35 ntF
        have rd5 := rd.tk x35.2
        have key : ∀ H7, Tk H5 H7 → EvD (tTup (tCons (tVar 5) (tCons (tCall spFold [] E0 (tCons (tVar 8) (tCons (tVar 4) tNil))) tNil))) [some (V.ref F), some (.ref md), some v, some (.ref td), some (.bl b), some vd, some (.ref Dr), some (.int (i : Int)), some (.str nm), none] H7 (eS.e (d, hold b nm)) := fun H7 t7 =>
          evd_tup (eds_cons (evd_var rfl (rd5.tk t7)) (eds_cons (evd_txt (ev_call (ea_cons (ev_var rfl) (ea_cons (ev_var rfl) ea_nil)) fun H8 e8 Q' q E' => ⟨_, _, rfl, okS_len hnm, q⟩) (okS_hold hnm)) eds_nil)) (by simp)
        refine s_when (et_test (ev_notin (E := eS) (key H5 (Tk.refl _)) (keyD_eS _) (ev_var rfl) ht5)) (fun hb H6 e6 => ?_) (fun hb H6 e6 => ?_)
        · have hng : (d, hold b nm) ∉ gk := by simpa using hb
          refine q_putK (E := eS) (p := (d, hold b nm)) (ev_c (v := .bl true)) (ev_var rfl) (key H6 (Tk.of e6)) (keyD_eS _) (ht5.ex e6) (by omega) fun H7 e7 ht7 => ?_
          rw [kins_new hng] at ht7
          have rd7 := (rd5.ex e6).tk e7.2
          refine s_retE (evd_snoc (evd_var rfl rd7) (evd_txt (ev_var rfl) hnm) (by omega)) fun vr H8 e8 rr => k vr H8 ?_ (((f5.ex e6).exb e7 ntF.symm ntL.symm).ex e8) (.inr ⟨d, nm, rr, hnm, hd, hdl, hfix, hng, ht7.ex e8⟩)
          exact ((ExS.m ((x3.trans x35).ex e6)).trans (ExS.s e7)).trans (ExS.of e8)
        · exact ⟨⟨_, _, rfl⟩, x35.ex e6, f5.ex e6⟩
      · obtain ⟨⟨z1, z2, rfl⟩, x4, f4⟩ := hp
        exact s_ret ev_c fun H5 e5 => k _ H5 (ExS.m ((x3.trans x4).ex e5)) (f4.ex e5) (.inl ⟨rfl, ((ht.exb x3 ntF).exb x4 ntF).ex e5⟩)
    have hd0 : p.dropLast.length ≤ 5 := by have := hlen p hp; rw [List.length_dropLast]; omega
    refine q_whenF (Pb := fun bb => bb = true → mk p ≠ none) (f.ex e12) (fun H3 e3 f3 Q' q => ?_) (fun H3 hb x3 f3 => ?_) (fun H3 hb x3 f3 => ?_)
    · refine et_B (b := !decide (mk p = none)) (ev_is (ev_notN (ev_get (E := eP) (p := p) (f := fun p => mkk (mk p)) (ev_var rfl) ((hm.ex e12).exb e3 nmF) (evd_var rfl ((rv.ex e12).tk e3.2)) (keyD_pk p) hp)) (by rw [mk_none])) H3 (Ex.refl _) _ fun H4 e4 => ?_
      cases hc : mk p with
      | none =>
        show Q' false H4
        exact q false H4 (ExB.of e4) (f3.ex e4) fun h => nomatch h
      | some m0 =>
        refine evf_op (S := fun v _ => ∃ b, v = V.bl b) (P := IsN 0 2) (evf_drawC (F := F) (L := L) (H := H4) (m := 2) rfl) (upf_n _ _ _) evf_c (fun x y H5 e5 px py Q q => ?_) H4 (ExB.refl _ _) (f3.ex e4) _ fun vb H5 e5 f5 ⟨bb, ev⟩ => ?_
        · obtain ⟨j, rfl, _⟩ := px
          subst py
          exact ⟨rfl, q _ H5 (Ex.refl _) ⟨_, rfl⟩⟩
        · subst ev
          exact ⟨bb, rfl, q bb H5 ((ExB.of e4).trans e5) f5 fun _ => by simp [hc]⟩
    · refine s_asgF f3 (evf_ixD (K := K) (hD.exb x3 nDF) nDF (fun _ _ => ev_var rfl) (evf_draw (fun _ _ => ev_var rfl) (fun H4 e4 => ev_lenL (evl_var rfl ((hD.exb x3 nDF).exb e4 nDF))) (by omega) (by omega))) fun vd H4 e4 f4 ⟨dd, hdd, rd⟩ => ?_
      obtain ⟨q, rfl, h1, h2⟩ := hdm dd hdd
      exact rest _ H4 q vd rfl (((ExB.of e12).trans x3).trans e4) f4 rd h1 h2 fun h => absurd h (hb rfl)
    · exact rest _ H3 p.dropLast v0 rfl ((ExB.of e12).trans x3) f3 ((Rp.ex e2 r0).tk x3.2) (hdr p hp) hd0 fun _ => rfl
end
end R
/-! W22: wishes that are let by: one turn, plainly -/
namespace R
open PySem L2 Evl
structure WishOk (ks : List Path) (mk : Path → Mark) (wk : List Path) (wf : Path → Path) : Prop where
  one : wk.Nodup
  sub : ∀ p ∈ wk, p ∈ ks
  ne : ∀ p ∈ wk, wf p ≠ []
  len : ∀ p ∈ wk, (wf p).length ≤ 6
  dr : ∀ p ∈ wk, isDr ks mk (wf p).dropLast = true
  fix : ∀ p ∈ wk, mk p = none → (wf p).dropLast = p.dropLast
  inj : ∀ p ∈ ks, ∀ q ∈ ks, keyB true (plc wk wf p) = keyB true (plc wk wf q) → p = q
structure WishSt (ks : List Path) (mk : Path → Mark) (wk : List Path) (wf : Path → Path) (gk : List Spot) : Prop where
  w : WishOk ks mk wk wf
  g1 : ∀ p ∈ ks, keyB true p ∈ gk
  g2 : ∀ p ∈ wk, keyB true (wf p) ∈ gk
theorem RowsOk.inj {b : Bool} {ks : List Path} {mk : Path → Mark} (R : RowsOk b ks mk) {p q : Path} (hp : p ∈ ks) (hq : q ∈ ks) (h : keyB b p = keyB b q) : p = q := by
  have hn := R.keys
  clear R
  induction ks with
  | nil => cases hp
  | cons a ks ih =>
    rw [List.map_cons, List.nodup_cons] at hn
    rcases List.mem_cons.mp hp with e1 | hp' <;> rcases List.mem_cons.mp hq with e2 | hq'
    · rw [e1, e2]
    · exact absurd (List.mem_map.mpr ⟨q, hq', by rw [← h, e1]⟩) hn.1
    · exact absurd (List.mem_map.mpr ⟨p, hp', by rw [h, e2]⟩) hn.1
    · exact ih hp' hq' hn.2
theorem WishSt.key {ks : List Path} {mk : Path → Mark} {wk : List Path} {wf : Path → Path} {gk : List Spot} (S : WishSt ks mk wk wf gk) {p : Path} (h : p ∈ ks) : keyB true (plc wk wf p) ∈ gk := by
  unfold plc
  split
  · rename_i hw; exact S.g2 p hw
  · exact S.g1 p h
/-- the last place of a turn: the first thing's, or a free one -/
def LastOk (ks : List Path) (mk : Path → Mark) (gk : List Spot) (so : List Path) (la : Path) (gk' : List Spot) : Prop :=
  (so.head? = some la ∧ gk' = gk) ∨ ∃ d nm, la = d ++ [nm] ∧ isDr ks mk d = true ∧ d.length ≤ 5 ∧ (∀ s, so.getLast? = some s → mk s = none → d = s.dropLast) ∧ (d, low nm) ∉ gk ∧ gk' = gk ++ [(d, low nm)]
theorem nodup_at {α β : Type} {f : α → β} : ∀ {xs : List α}, (xs.map f).Nodup → ∀ {i j : Nat} {x y : α}, xs[i]? = some x → xs[j]? = some y → f x = f y → i = j
  | [], _, i, j, x, y, hx, _, _ => by simp at hx
  | a :: xs, hn, i, j, x, y, hx, hy, h => by
    rw [List.map_cons, List.nodup_cons] at hn
    cases i with
    | zero =>
      cases hx
      cases j with
      | zero => rfl
      | succ j => exact absurd (h ▸ List.mem_map.mpr ⟨y, List.mem_of_getElem? hy, rfl⟩) hn.1
    | succ i =>
      cases j with
      | zero => cases hy; exact absurd (h ▸ List.mem_map.mpr ⟨x, List.mem_of_getElem? hx, rfl⟩) hn.1
      | succ j => rw [nodup_at hn.2 (i := i) (j := j) hx hy h]
theorem WishSt.turn {ks : List Path} {mk : Path → Mark} {wk : List Path} {wf wf' : Path → Path} {gk gk' : List Spot} {so : List Path} {la : Path} (R : RowsOk true ks mk) (S : WishSt ks mk wk wf gk) (hne : so ≠ []) (hnd : so.Nodup) (hsk : ∀ s ∈ so, s ∈ ks) (hsw : ∀ s ∈ so, s ∉ wk)
    (same : (∀ s ∈ so, mk s ≠ none) ∨ ∃ d, ∀ s ∈ so, s.dropLast = d) (hla : LastOk ks mk gk so la gk') (hol : ∀ p ∈ wk, wf' p = wf p)
    (hnew : ∀ (i : Nat) (s t : Path), so[i]? = some s → (so.drop 1 ++ [la])[i]? = some t → wf' s ≠ [] ∧ (wf' s).dropLast = t.dropLast ∧ low (lst (wf' s)) = low (lst t)) : WishSt ks mk (wk ++ so) wf' gk' := by
  obtain ⟨s0, rest, rfl⟩ : ∃ s0 rest, so = s0 :: rest := by
    cases so with
    | nil => exact absurd rfl hne
    | cons a r => exact ⟨a, r, rfl⟩
  have hts : (s0 :: rest).drop 1 ++ [la] = rest ++ [la] := rfl
  rw [hts] at hnew
  have hlen : (rest ++ [la]).length = (s0 :: rest).length := by simp
  -- a target
  have tgt : ∀ s ∈ s0 :: rest, ∃ (i : Nat) (t : Path), (s0 :: rest)[i]? = some s ∧ (rest ++ [la])[i]? = some t ∧ wf' s ≠ [] ∧ (wf' s).dropLast = t.dropLast ∧ keyB true (wf' s) = keyB true t := fun s hs => by
    obtain ⟨i, hi⟩ := List.getElem?_of_mem hs
    have hlt : i < (rest ++ [la]).length := by rw [hlen]; exact (List.getElem?_eq_some_iff.mp hi).1
    obtain ⟨h1, h2, h3⟩ := hnew i s _ hi (List.getElem?_eq_getElem hlt)
    exact ⟨i, _, hi, List.getElem?_eq_getElem hlt, h1, h2, by unfold keyB hold; rw [h2]; simp only [if_true]; rw [h3]⟩
  have kla : (la ∈ s0 :: rest ∧ la = s0 ∧ gk' = gk) ∨ (∃ d nm, la = d ++ [nm] ∧ isDr ks mk d = true ∧ d.length ≤ 5 ∧ (∀ s, (s0 :: rest).getLast? = some s → mk s = none → d = s.dropLast) ∧ keyB true la ∉ gk ∧ gk' = gk ++ [keyB true la]) := by
    rcases hla with ⟨h1, h2⟩ | ⟨d, nm, rfl, h1, h2, h3, h4, h5⟩
    · have e : s0 = la := by simpa using h1
      exact .inl ⟨by rw [← e]; exact List.mem_cons_self .., e.symm, h2⟩
    · have e : keyB true (d ++ [nm]) = (d, low nm) := by unfold keyB hold; rw [List.dropLast_concat, lst_snoc]; rfl
      exact .inr ⟨d, nm, rfl, h1, h2, h3, by rw [e]; exact h4, by rw [e]; exact h5⟩
  have gsub : ∀ k ∈ gk, k ∈ gk' := fun k hk => by
    rcases kla with ⟨_, _, h⟩ | ⟨_, _, _, _, _, _, _, h⟩
    · rw [h]; exact hk
    · rw [h]; exact List.mem_append.mpr (.inl hk)
  have tin : ∀ t ∈ rest ++ [la], t ∈ s0 :: rest ∨ (t = la ∧ keyB true la ∉ gk) := fun t ht => by
    rcases List.mem_append.mp ht with h | h
    · exact .inl (List.mem_cons_of_mem _ h)
    · have e := List.mem_singleton.mp h
      rcases kla with ⟨h1, _, _⟩ | ⟨_, _, _, _, _, _, h2, _⟩
      · exact .inl (e ▸ h1)
      · exact .inr ⟨e, h2⟩
  have tdr : ∀ t ∈ rest ++ [la], isDr ks mk t.dropLast = true ∧ t.dropLast.length ≤ 5 ∧ keyB true t ∈ gk' := fun t ht => by
    rcases List.mem_append.mp ht with h | h
    · have hk := hsk t (List.mem_cons_of_mem _ h)
      exact ⟨R.dr t hk, by have := R.len t hk; rw [List.length_dropLast]; omega, gsub _ (S.g1 t hk)⟩
    · have e := List.mem_singleton.mp h
      subst e
      rcases kla with ⟨h1, _, _⟩ | ⟨d, nm, h0, h1, h2, _, _, h5⟩
      · have hk := hsk t h1
        exact ⟨R.dr t hk, by have := R.len t hk; rw [List.length_dropLast]; omega, gsub _ (S.g1 t hk)⟩
      · refine ⟨by rw [h0, List.dropLast_concat]; exact h1, by rw [h0, List.dropLast_concat]; exact h2, ?_⟩
        rw [h5]
        exact List.mem_append.mpr (.inr (List.mem_singleton.mpr rfl))
  have keysN : ((rest ++ [la]).map (keyB true)).Nodup := by
    rw [List.map_append, List.nodup_append]
    have hr : (rest.map (keyB true)).Nodup := by
      refine List.pairwise_map.mpr (List.Pairwise.imp_of_mem ?_ (List.nodup_cons.mp hnd).2)
      intro x y hx hy hne he
      exact hne (R.inj (hsk x (List.mem_cons_of_mem _ hx)) (hsk y (List.mem_cons_of_mem _ hy)) he)
    refine ⟨hr, by simp, fun a ha b hb e => ?_⟩
    obtain ⟨x, hx, rfl⟩ := List.mem_map.mp ha
    rw [List.map_cons, List.map_nil, List.mem_singleton] at hb
    subst hb
    rcases kla with ⟨h1, h2, _⟩ | ⟨_, _, _, _, _, _, h2, _⟩
    · have := R.inj (hsk x (List.mem_cons_of_mem _ hx)) (hsk la h1) e
      rw [this, h2] at hx
      exact (List.nodup_cons.mp hnd).1 hx
    · exact h2 (e ▸ S.g1 x (hsk x (List.mem_cons_of_mem _ hx)))
  have ps : ∀ p ∈ s0 :: rest, plc (wk ++ (s0 :: rest)) wf' p = wf' p := fun p hp => if_pos (List.mem_append.mpr (.inr hp))
  have pn : ∀ p, p ∉ s0 :: rest → plc (wk ++ (s0 :: rest)) wf' p = plc wk wf p := fun p hp => by
    unfold plc
    by_cases h : p ∈ wk
    · rw [if_pos h, if_pos (List.mem_append.mpr (.inl h)), hol p h]
    · rw [if_neg h, if_neg fun z => (List.mem_append.mp z).elim h hp]
  have cross : ∀ p ∈ s0 :: rest, ∀ q ∈ ks, q ∉ s0 :: rest → keyB true (wf' p) ≠ keyB true (plc wk wf q) := fun p hp q hq hqs e => by
    obtain ⟨i, t, hi, ht, _, _, hk⟩ := tgt p hp
    rw [hk] at e
    rcases tin t (List.mem_of_getElem? ht) with h | ⟨h1, h2⟩
    · have hpl : plc wk wf t = t := if_neg (hsw t h)
      have := S.w.inj t (hsk t h) q hq (by rw [hpl]; exact e)
      exact hqs (this ▸ h)
    · subst h1
      exact h2 (e ▸ S.key hq)
  refine ⟨⟨?_, ?_, ?_, ?_, ?_, ?_, ?_⟩, fun p hp => gsub _ (S.g1 p hp), ?_⟩
  · rw [List.nodup_append]
    exact ⟨S.w.one, hnd, fun a ha b hb e => hsw b hb (e ▸ ha)⟩
  · intro p hp
    rcases List.mem_append.mp hp with h | h
    · exact S.w.sub p h
    · exact hsk p h
  · intro p hp
    rcases List.mem_append.mp hp with h | h
    · rw [hol p h]; exact S.w.ne p h
    · exact (tgt p h).choose_spec.choose_spec.2.2.1
  · intro p hp
    rcases List.mem_append.mp hp with h | h
    · rw [hol p h]; exact S.w.len p h
    · obtain ⟨i, t, hi, ht, h1, h2, _⟩ := tgt p h
      have := (tdr t (List.mem_of_getElem? ht)).2.1
      rw [← h2, List.length_dropLast] at this
      omega
  · intro p hp
    rcases List.mem_append.mp hp with h | h
    · rw [hol p h]; exact S.w.dr p h
    · obtain ⟨i, t, hi, ht, h1, h2, _⟩ := tgt p h
      rw [h2]
      exact (tdr t (List.mem_of_getElem? ht)).1
  · intro p hp hmn
    rcases List.mem_append.mp hp with h | h
    · rw [hol p h]; exact S.w.fix p h hmn
    · obtain ⟨i, t, hi, ht, h1, h2, _⟩ := tgt p h
      rcases same with hs | ⟨D, hD⟩
      · exact absurd hmn (hs p h)
      · rw [h2, hD p h]
        rcases Nat.lt_or_ge i rest.length with hlt | hge
        · rw [List.getElem?_append_left hlt] at ht
          exact hD t (List.mem_cons_of_mem _ (List.mem_of_getElem? ht))
        · have hi' : i = rest.length := by
            have := (List.getElem?_eq_some_iff.mp hi).1
            rw [List.length_cons] at this
            omega
          rw [hi', List.getElem?_append_right (Nat.le_refl _), Nat.sub_self] at ht
          cases ht
          rcases kla with ⟨h1, _, _⟩ | ⟨d, nm, h0, _, _, h3, _, _⟩
          · exact hD _ h1
          · have hlast : (s0 :: rest).getLast? = some p := by
              rw [List.getLast?_eq_getElem?]
              rw [← hi]
              congr 1
              rw [List.length_cons, hi']
              rfl
            rw [h0, List.dropLast_concat, h3 p hlast hmn, hD p h]
  · intro p hp q hq e
    by_cases h1 : p ∈ s0 :: rest
    · by_cases h2 : q ∈ s0 :: rest
      · rw [ps p h1, ps q h2] at e
        obtain ⟨i, t, hi, ht, _, _, hk⟩ := tgt p h1
        obtain ⟨j, u, hj, hu, _, _, hk'⟩ := tgt q h2
        rw [hk, hk'] at e
        have eij := nodup_at keysN ht hu e
        subst eij
        rw [hi] at hj
        exact Option.some.inj hj
      · rw [ps p h1, pn q h2] at e
        exact absurd e (cross p h1 q hq h2)
    · by_cases h2 : q ∈ s0 :: rest
      · rw [pn p h1, ps q h2] at e
        exact absurd e.symm (cross q h2 p hp h1)
      · rw [pn p h1, pn q h2] at e
        exact S.w.inj p hp q hq e
  · intro p hp
    rcases List.mem_append.mp hp with h | h
    · rw [hol p h]; exact gsub _ (S.g2 p h)
    · obtain ⟨i, t, hi, ht, _, _, hk⟩ := tgt p h
      rw [hk]
      exact (tdr t (List.mem_of_getElem? ht)).2.2
end R
/-! W23: wishes that are let by, drawn -/
namespace R
open PySem L2 Evl
def spGood (w : World) : Sp := fun vs H Q _ => ∃ F L Rl most ks mk, vs = [.ref F, .ref Rl, .bl true, .int most] ∧ FeedAt H F L ∧ LstD H Rl (rowsD ks mk) ∧ RowsOk true ks mk ∧ 0 < most ∧ most ≤ 5 ∧
  RetF F L (fun v H' => ∃ p wk wf, v = .ref p ∧ H p = none ∧ Fd eP w H' p wk (fun p => pk (wf p)) ∧ WishOk ks mk wk wf) H Q
section
variable {F L : Addr} {K : PySem.W.Frag} {σ : L2.St} {H : Hp} {ta te : TE} {N : Ends} {tz : TS}
theorem s_whenF {t : TT} {tu : TS} {Pb : Bool → Prop} (f : FeedAt H F L) (h : ∀ H1, ExB F H H1 → FeedAt H1 F L → ∀ Q : Bool → Hp → Prop, (∀ b H2, ExB F H1 H2 → FeedAt H2 F L → Pb b → Q b H2) → t σ H1 Q)
    (h1 : ∀ H1, Pb true → ExB F H H1 → FeedAt H1 F L → tu N σ H1) (h2 : ∀ H1, Pb false → ExB F H H1 → FeedAt H1 F L → N.nx σ H1) : tIfS t tu tNext N σ H :=
  h H (ExB.refl _ _) f _ fun b H1 e1 f1 p => by
    cases b with
    | true => exact h1 H1 p e1 f1
    | false => exact h2 H1 p e1 f1
end
theorem dep_paths (ps : List Path) : NestedKey.depthAll (ps.map pk) ≤ 8 := depthAll_le.mpr fun d hd => by
  obtain ⟨p, _, rfl⟩ := List.mem_map.mp hd
  exact pk_le8 p
theorem perm_map_inv {α β : Type} [DecidableEq α] {g : α → β} : ∀ {es : List β} {xs : List α}, es.Perm (xs.map g) → ∃ ys : List α, ys.Perm xs ∧ es = ys.map g
  | [], xs, h => by
    have := h.length_eq
    rw [List.length_map] at this
    have : xs = [] := List.length_eq_zero_iff.mp this.symm
    subst this
    exact ⟨[], .refl _, rfl⟩
  | e :: es, xs, h => by
    obtain ⟨x, hx, rfl⟩ := List.mem_map.mp (h.mem_iff.mp (List.mem_cons_self ..))
    have h1 : xs.Perm (x :: xs.erase x) := List.perm_cons_erase hx
    have h2 : (g x :: es).Perm (g x :: (xs.erase x).map g) := h.trans (h1.map g)
    obtain ⟨ys, h3, h4⟩ := perm_map_inv h2.cons_inv
    exact ⟨x :: ys, (h3.cons x).trans h1.symm, by rw [List.map_cons, h4]⟩
theorem s_callP {σ : L2.St} {H : Hp} {N : Ends} {sp : Sp} {E : XK} {ta : TA} {Ps : List (V → Hp → Prop)} {i : Nat} (h : EvPs ta σ H Ps) (hs : ∀ H1 vs, Ex H H1 → PsOk H1 Ps vs → sp vs H1 (fun v H2 => N.nx (σ.set i (some v)) H2) E) : tAsg (tCall sp [] E ta) (gName i) N σ H :=
  h H (Ex.refl _) _ fun vs H1 e1 p => by
    show sp (vs ++ []) H1 _ E
    rw [List.append_nil]
    exact hs H1 vs e1 p
theorem iz_raw {K : PySem.W.Frag} {σ : L2.St} {H : Hp} {ta : TA} {Ps : List (V → Hp → Prop)} {R : It → Hp → Prop} (h : EvPs ta σ H Ps) (k : ∀ vs H1, Ex H H1 → PsOk H1 Ps vs → ∃ a b xs ys, vs = [.ref a, .ref b] ∧ SqL K H1 a xs ∧ SqL K H1 b ys ∧ R (Itz K a b) H1) : iZip K ta σ H R := h H (Ex.refl _) _ k
theorem ps5 {H : Hp} {P P2 P3 P4 P5 : V → Hp → Prop} {vs : List V} (h : PsOk H [P, P2, P3, P4, P5] vs) : ∃ v u x y z, vs = [v, u, x, y, z] ∧ P v H ∧ P2 u H ∧ P3 x H ∧ P4 y H ∧ P5 z H := by
  cases h with
  | cons a t =>
    cases t with
    | cons b t => obtain ⟨x, y, z, rfl, c, d, e⟩ := ps3 t; exact ⟨_, _, _, _, _, rfl, a, b, c, d, e⟩
theorem ExS.to {F td : Addr} {H H1 H2 : Hp} (x : ExB F H H1) (ht : H td = none) (y : ExS td F H1 H2) : ExB F H H2 := ⟨fun b o hb h => y.1 b o (ne_of_none h ht) hb (x.1 b o hb h), x.2.trans y.2⟩
theorem LstD.exs {S M a : Addr} {H H' : Hp} {ds : List D} (x : ExS S M H H') (h1 : a ≠ S) (h2 : a ≠ M) (h : LstD H a ds) : LstD H' a ds := let ⟨xs, k1, k2⟩ := h; ⟨xs, x.1 _ _ h1 h2 k1, k2.tk x.2⟩
theorem Fd.exs {α : Type} [DecidableEq α] {En : Enc α} {w : World} {S M d : Addr} {H H' : Hp} {ks : List α} {f : α → D} (x : ExS S M H H') (h1 : d ≠ S) (h2 : d ≠ M) (h : Fd En w H d ks f) : Fd En w H' d ks f := let ⟨o, h⟩ := h; ⟨o, h.tk x.2 fun o' ho => x.1 _ _ h1 h2 ho⟩
theorem Ky.exs {α : Type} [DecidableEq α] {En : Enc α} {w : World} {S M d : Addr} {H H' : Hp} {ks : List α} (x : ExS S M H H') (h1 : d ≠ S) (h2 : d ≠ M) (h : Ky En w H d ks) : Ky En w H' d ks := let ⟨o, g, h⟩ := h; ⟨o, g, h.tk x.2 fun o' ho => x.1 _ _ h1 h2 ho⟩
theorem fm_if {f : Path → Option D} {t : Path → Bool} : ∀ {xs : List Path}, (∀ q, f q = if t q = true then some (pk q) else none) → xs.filterMap f = (xs.filter t).map pk
  | [], _ => rfl
  | a :: xs, h => by
    rw [List.filterMap_cons, List.filter_cons, h a]
    cases hh : t a with
    | true =>
      show pk a :: _ = _
      rw [fm_if h]
      rfl
    | false => exact fm_if h
/-- a test: xs is not empty and .. of a number -/
theorem et_ne {K : PySem.W.Frag} {σ : L2.St} {H : Hp} {ta : TE} {ps : List Path} (h : EvLs ta σ H (ps.map pk)) : EvT (tTest (tOp (rNeD K) ta (tLst tNil))) σ H (!decide (ps = [])) :=
  et_is (et_test (ev_ne_nil h (dep_paths ps))) (by cases ps <;> simp)
section
variable {P : Program} {w : World} {K : PySem.W.Frag} {mg : Str → Option Value} {base : Heap}
theorem ok_good (T : Txt K mg) : FnOk P w K mg base CX0 5 T.l_good_wishes.f T.l_good_wishes.fd ["_law_feed", "_law_rows_here", "_law_blind", "_law_most"] (spGood w) := by
  refine T.l_good_wishes.F.ok c_l_good_wishes (fun vs H Q E h => ?_) (fun cdv A outer sh H vs Q E hr h => ?_)
  · obtain ⟨_, _, _, _, _, _, rfl, _⟩ := h
    rfl
  · obtain ⟨F, L, Rl, most, ks, mk, rfl, f, hRl, RO, hm0, hm1, k⟩ := h
    have hr1 : Room 1 _ := hr.mono (by decide)
    have hr2 : Room 2 _ := hr.mono (by decide)
    have hr9 := room9 hr
    have nd := c_l_good_wishes.nd
    refine ⟨_, pss_cons (ps_set (i := 4) nd rfl (Or.inr rfl) (pe_callTy (call_dictPN rfl hr9) (by rfl) T.z_dict (by decide +kernel) (pa_cons (pv 1) pa_nil)))
      (pss_cons (ps_set (i := 5) nd rfl (Or.inr rfl) pe_dnewN)
      (pss_cons (ps_set (i := 6) nd rfl (Or.inl rfl) pe_dnewN)
      (pss_cons (ps_for PassesOwn.never rfl (pi_keysN (pv 4)) (pg_name (i := 7) nd rfl (Or.inl rfl)) (pss_one (ps_dputN hr9 (pv 6) (pe_tup (pa_cons (pe_slice sl_tupA (pv 7) po_none (po_some (pe_un un_neg pe_int))) (pa_cons (pe_call (ok_fold T) hr1 rfl T.l_fold.g T.l_fold.F.kp T.l_fold.b .nil pass0 (pa_cons (pe_ix ix_tup (pv 7) (pe_un un_neg pe_int) (fun _ _ => rfl)) (pa_cons (pv 2) pa_nil))) pa_nil))) pe_bl)))
      (pss_cons (ps_for PassesOwn.never rfl (pi_range1 rfl T.z_range (pa_cons (pe_op op_add pe_int (pe_call (ok_draw T) hr1 rfl T.l_draw.g T.l_draw.F.kp T.l_draw.b .nil pass0 (pa_cons (pv 0) (pa_cons (pv 3) pa_nil)))) pa_nil)) (pg_name (i := 8) nd rfl (Or.inl rfl))
        (pss_cons (ps_setLc (i := 9) (own := [("_law_path", 7)]) (g := gName 7) (tt := tTest (tOp (rInN w true) (tVar 7) (tVar 5))) (te := tVar 7) rfl nd rfl rfl (sw_true rfl rfl rfl (by decide +kernel))
            (pi_list (pe_callB (call_sortedN rfl hr9) (by rfl) T.z_sorted (by decide +kernel) (pa_cons (pv 4) pa_nil))) (blkOk_by (N := n_l_good_wishes) (sc := defScope s_l_good_wishes) (by decide +kernel)) (fun _ _ _ _ _ => pg_name (i := 7) nd rfl (Or.inl rfl)) (fun _ _ _ _ _ => pts_one (pt_cmpR (op_notinN (by exact hr9)) (pv 7) (pv 5) rfl)) (fun _ _ _ _ _ => pv 7))
        (pss_cons (ps_setLc (i := 10) (own := [("_law_path", 7)]) (g := gName 7) (tt := tB (tNotN (tOp (rGetN w) (tVar 4) (tVar 7)))) (te := tVar 7) rfl nd rfl rfl (sw_true rfl rfl rfl (by decide +kernel))
            (pi_list (pv 9)) (blkOk_by (N := n_l_good_wishes) (sc := defScope s_l_good_wishes) (by decide +kernel)) (fun _ _ _ _ _ => pg_name (i := 7) nd rfl (Or.inl rfl)) (fun _ _ _ _ _ => pts_one (pt_cmp (pc_notN (pe_dgetN (by exact hr9) (pv 4) (pv 7))))) (fun _ _ _ _ _ => pv 7))
        (pss_cut (ps_if (PW.pt (pw_and (pt_cmpR (op_neD hr.units) (pv 9) (pe_lst pa_nil) (nomark _)) (pw_and1 (pt_cmpR op_eq (pe_call (ok_draw T) hr1 rfl T.l_draw.g T.l_draw.F.kp T.l_draw.b .nil pass0 (pa_cons (pv 0) (pa_cons pe_int pa_nil))) pe_int (nomark _)))))
          (pss_cons (ps_set (i := 11) nd rfl (Or.inr rfl) (pe_slice sl_tupA (pe_ix ix_list (pv 9) (pe_call (ok_draw T) hr1 rfl T.l_draw.g T.l_draw.F.kp T.l_draw.b .nil pass0 (pa_cons (pv 0) (pa_cons (pe_callB call_len_seq (by rfl) T.z_len PySem.boot_len (pa_cons (pv 9) pa_nil)) pa_nil))) (fun _ _ => rfl)) po_none (po_some (pe_un un_neg pe_int))))
          (pss_one (ps_setLc (i := 10) (own := [("_law_path", 7)]) (g := gName 7) (tt := tTest (tOp (rEqD K) (tSl (rSlA K) (tVar 7) tNoPart (tPart (tUn (rU fun i => .int (-i)) (tC (.int 1))))) (tVar 11))) (te := tVar 7) rfl nd rfl rfl (sw_true rfl rfl rfl (by decide +kernel))
            (pi_list (pv 9)) (blkOk_by (N := n_l_good_wishes) (sc := defScope s_l_good_wishes) (by decide +kernel)) (fun _ _ _ _ _ => pg_name (i := 7) nd rfl (Or.inl rfl)) (fun _ _ _ _ _ => pts_one (pt_cmpR (op_eqD (by exact hr.units)) (pe_slice sl_tupA (pv 7) po_none (po_some (pe_un un_neg pe_int))) (pv 11) (nomark _))) (fun _ _ _ _ _ => pv 7)))) pss_nil)
        (pss_cons (ps_set (i := 10) nd rfl (Or.inl rfl) (pe_call (ok_some T) hr2 rfl T.l_some_of.g T.l_some_of.F.kp T.l_some_of.b .nil pass0 (pa_cons (pv 0) (pa_cons (pv 10) (pa_cons (pe_op op_add pe_int (pe_call (ok_draw T) hr1 rfl T.l_draw.g T.l_draw.F.kp T.l_draw.b .nil pass0 (pa_cons (pv 0) (pa_cons pe_int pa_nil)))) pa_nil)))))
        (pss_cons (ps_set (i := 12) nd rfl (Or.inl rfl) (pe_call (ok_draw T) hr1 rfl T.l_draw.g T.l_draw.F.kp T.l_draw.b .nil pass0 (pa_cons (pv 0) (pa_cons pe_int pa_nil))))
        (pss_cons (ps_set (i := 13) nd rfl (Or.inl rfl) pe_non)
        (pss_cut (ps_if (PW.pt (pw_and (pt_cmpR (op_neD hr.units) (pv 10) (pe_lst pa_nil) (nomark _)) (pw_and1 (pt_cmpR op_eq (pv 12) pe_int (nomark _))))) (pss_one (ps_set (i := 13) nd rfl (Or.inl rfl) (pe_ix ix_list (pv 10) pe_int (fun _ _ => rfl)))) pss_nil)
        (pss_cut (ps_if (PW.pt (pw_and (pt_cmpR (op_neD hr.units) (pv 10) (pe_lst pa_nil) (nomark _)) (pw_and1 (pt_cmpR op_gt (pv 12) pe_int (nomark _)))))
          (pss_one (ps_set (i := 13) nd rfl (Or.inl rfl) (pe_call (ok_free T) hr rfl T.l_free_place.g T.l_free_place.F.kp T.l_free_place.b .nil pass0 (pa_cons (pv 0) (pa_cons (pv 4) (pa_cons (pe_ix ix_list (pv 10) (pe_un un_neg pe_int) (fun _ _ => rfl)) (pa_cons (pv 6) (pa_cons (pv 2) pa_nil)))))))) pss_nil)
        (pss_one (ps_if (pt_cmp (pc_notN (pv 13)))
          (pss_one (ps_for PassesOwn.never rfl (pi_zip (by rfl) T.z_zip (pa_cons (pv 10) (pa_cons (pe_op op_cat (pe_slice sl_list (pv 10) (po_some pe_int) po_none) (pe_lst (pa_cons (pv 13) pa_nil))) pa_nil))) (pg_tup rfl (pgs_cons (pg_name (i := 14) nd rfl (Or.inl rfl)) (pgs_cons (pg_name (i := 15) nd rfl (Or.inl rfl)) pgs_nil)))
            (pss_cons (ps_set (i := 16) nd rfl (Or.inl rfl) (pe_ix ix_tup (pv 15) (pe_un un_neg pe_int) (fun _ _ => rfl)))
            (pss_cons (ps_if (pt_val (pv 2)) (pss_one (ps_set (i := 16) nd rfl (Or.inl rfl) (pe_call (ok_other T) hr2 rfl T.l_other_case.g T.l_other_case.F.kp T.l_other_case.b .nil pass0 (pa_cons (pv 0) (pa_cons (pv 16) pa_nil))))) pss_nil)
            (pss_one (ps_dputN hr9 (pv 5) (pv 14) (pe_op op_catA (pe_slice sl_tupA (pv 15) po_none (po_some (pe_un un_neg pe_int))) (pe_tup (pa_cons (pv 16) pa_nil))))))))) pss_nil)))))))))))
      (pss_one (ps_ret (pv 5))))))), ?_⟩
    have snd := sortP_nodup (ks := ks)
    have ksn : ks.Nodup := (List.pairwise_map.mp RO.keys).imp fun hne e => hne (congrArg _ e)
    have kfew := RO.few
    refine q_asgP (evp_dictF (E := eP) (w := w) (ks := ks) (f := fun p => mkk (mk p)) (evl_var rfl hRl) ksn (fun q _ => keyD_pk q) (by omega)) fun vm H1 e1 ⟨md, ev, hm0', hmd⟩ => ?_
    subst ev
    refine q_newD fun wd H2 hw0 e2 ⟨ow, how⟩ => ?_
    refine q_newD fun td H3 ht0 e3 ⟨ot, hot⟩ => ?_
    have e12 := e1.trans e2
    have e13 := e12.trans e3
    have hwH : H wd = none := fresh_back e1 hw0
    have htH : H td = none := fresh_back e12 ht0
    have fresh : ∀ {p : Addr}, H p = none → p ≠ F ∧ p ≠ L := fun {p} hp => ⟨fun z => (by obtain ⟨o, ho⟩ := f.at1; rw [← z, hp] at ho; cases ho), fun z => (by obtain ⟨o, ho⟩ := f.atL; rw [← z, hp] at ho; cases ho)⟩
    obtain ⟨m1, m2⟩ := fresh hm0'
    obtain ⟨w1, w2⟩ := fresh hwH
    obtain ⟨t1, t2⟩ := fresh htH
    have nmw : md ≠ wd := fun z => by obtain ⟨o, ho⟩ := hmd.at; rw [z, hw0] at ho; cases ho
    have nmt : md ≠ td := fun z => by obtain ⟨o, ho⟩ := (hmd.ex e2).at; rw [z, ht0] at ho; cases ho
    have nwt : wd ≠ td := fun z => by rw [← z, how.1] at ht0; cases ht0
    have hmd3 := hmd.ex (e2.trans e3)
    obtain ⟨om, hom⟩ := id hmd3
    obtain ⟨gm, hgm, _⟩ := id hom
    -- taken
    refine q_forK (ev_var rfl) hgm (fun i σ' H' => (∃ z, σ' = [some (.ref F), some (.ref Rl), some (.bl true), some (.int most), some (.ref md), some (.ref wd), some (.ref td), z, none, none, none, none, none, none, none, none, none]) ∧ Kp md H3 H' ∧ Ex H H' ∧ Fd eP w H' md ks (fun p => mkk (mk p)) ∧ Fd eP w H' wd [] (fun p => pk p) ∧ ∃ gk, Ky eS w H' td gk ∧ gk.length ≤ i ∧ ∀ p ∈ ks.take i, keyB true p ∈ gk)
      (fun H4 e4 => ⟨⟨_, rfl⟩, Kp.of e4, e13.trans e4, hmd3.ex e4, (fd_new how).ex (e3.trans e4), [], (ky_new hot).ex e4, Nat.le_refl _, fun p hp => by cases hp⟩) (fun i σ' H' hp => hp.2.1) (fun i v p σ' H' hi rv hp => ?_) (fun σ' H' hp => ?_)
    · obtain ⟨⟨z, rfl⟩, kp, e4, hmd4, hwd4, gk, hgk, hgl, hin⟩ := hp
      have hpk : p ∈ ks := List.mem_of_getElem? hi
      have hlt : i < ks.length := (List.getElem?_eq_some_iff.mp hi).1
      have hok := RO.ok p hpk (lst p) (lst_mem (RO.ne p hpk))
      refine s_putK (E := eS) (p := keyB true p) (ev_c (v := .bl true)) (ev_var rfl) (evd_tup (eds_cons (evd_init (evd_var rfl rv)) (eds_cons (evd_txt (ev_call (ea_cons (ev_txt (evd_last (evd_var rfl rv) (RO.ne p hpk))) (ea_cons (ev_var rfl) ea_nil)) fun H8 e8 Q' q E' => ⟨_, _, rfl, okS_len hok, q⟩) (okS_hold hok)) eds_nil)) (by simp)) (keyD_eS _) hgk (by omega) fun H5 e5 hgk5 => ?_
      refine ⟨⟨_, rfl⟩, kp.exb nmt e5, R.Ex.mutB e4 htH e5, hmd4.exb e5 nmt, hwd4.exb e5 nwt, _, hgk5, Nat.le_trans (kins_len _ _) (by omega), fun q hq => ?_⟩
      rw [take_snoc hi] at hq
      rcases List.mem_append.mp hq with h | h
      · exact mem_kins.mpr (.inr (hin q h))
      · rw [List.mem_singleton.mp h]
        exact mem_kins.mpr (.inl rfl)
    obtain ⟨⟨z7, rfl⟩, kp, e4, hmd4, hwd4, gk0, hgk0, hgl0, hin0⟩ := hp
    rw [List.take_length] at hin0
    have W0 : WishSt ks mk [] (fun p => p) gk0 := ⟨⟨List.nodup_nil, (fun p hp => by cases hp), (fun p hp => by cases hp), (fun p hp => by cases hp), (fun p hp => by cases hp), (fun p hp => by cases hp), fun p hp q hq e => RO.inj hp hq (by simpa [plc] using e)⟩, hin0, fun p hp => by cases hp⟩
    refine q_forRF (m := 6) (f.ex e4) (EvF.imp (evf_plus (P' := fun _ _ => True) (evf_draw (fun _ _ => ev_var rfl) (fun _ _ => ev_var rfl) hm0 (by omega))) fun v H5 e5 ⟨n, h1, h2, h3⟩ => ⟨n, h1, by omega, by omega⟩) (by decide)
      (fun i σ' H' => (∃ z7 z8 z9 z10 z11 z12 z13 z14 z15 z16, σ' = [some (.ref F), some (.ref Rl), some (.bl true), some (.int most), some (.ref md), some (.ref wd), some (.ref td), z7, z8, z9, z10, z11, z12, z13, z14, z15, z16]) ∧ ExB F H H' ∧ FeedAt H' F L ∧ Fd eP w H' md ks (fun p => mkk (mk p)) ∧ ∃ wk wf gk, Fd eP w H' wd wk (fun p => pk (wf p)) ∧ Ky eS w H' td gk ∧ gk.length ≤ 18 + i ∧ WishSt ks mk wk wf gk)
      (fun H5 e5 f5 => ⟨⟨_, _, _, _, _, _, _, _, _, _, rfl⟩, (ExB.of e4).trans e5, f5, hmd4.exb e5 m1, [], fun p => p, gk0, hwd4.exb e5 w1, hgk0.exb e5 t1, by omega, W0⟩)
      (fun i σ' H' hi hp => ?_) (fun n σ' H' hn hp => ?_)
    · obtain ⟨⟨z7, z8, z9, z10, z11, z12, z13, z14, z15, z16, rfl⟩, x5, f5, hmd5, wk, wf, gk, hwd5, hgk5, hgl5, WS⟩ := hp
      have wfew : wk.length ≤ 18 := Nat.le_trans (nodup_few WS.w.one WS.w.sub) kfew
      show tSeq _ _ _ [some (V.ref F), some (.ref Rl), some (.bl true), some (.int most), some (.ref md), some (.ref wd), some (.ref td), z7, some (.int (i : Int)), z9, z10, z11, z12, z13, z14, z15, z16] H'
      -- left
      refine q_asgP (evn_is (evn_lcA (e := pk) (as := sortP ks) (EvN.any (evn_sortK (ev_var rfl) hmd5.ky RO.ne (by omega))) (by rw [sortP_len]; omega) (fun q => if q ∈ wk then none else some (pk q)) (fun x q H6 hq e6 rx => ?_) (fun _ _ _ _ _ => g_mono_name)) (es := ((sortP ks).filter fun q => !decide (q ∈ wk)).map pk) ?_) fun v9 H6 e6 ⟨Lf, ev, hLf0, hLf⟩ => ?_
      · refine ⟨Ex.refl _, rfl, _, et_test (ev_notin (E := eP) (p := q) (evd_var rfl rx) (keyD_pk q) (ev_var rfl) (hwd5.ex e6).ky), fun hb => ⟨pk q, ?_, evd_var rfl rx⟩, fun hb => ?_⟩
        · rw [if_neg (by simpa using hb)]
        · rw [if_pos (by simpa using hb)]
      · exact fm_if fun q => by by_cases h : q ∈ wk <;> simp [h]
      subst ev
      generalize hlfe : ((sortP ks).filter fun q => !decide (q ∈ wk)) = lf at hLf
      have lfm : ∀ s ∈ lf, s ∈ ks ∧ s ∉ wk := fun s hs => by
        rw [← hlfe] at hs
        have := List.mem_filter.mp hs
        exact ⟨mem_sortP.mp this.1, by simpa using this.2⟩
      have lfn : lf.Nodup := hlfe ▸ (snd ksn).filter _
      have lfl : lf.length ≤ 18 := Nat.le_trans (nodup_few lfn fun s hs => (lfm s hs).1) kfew
      have x6 := x5.ex e6
      have f6 := f5.ex e6
      have hLfH : ∀ {p : Addr}, H' p = none → p ≠ F ∧ p ≠ L := fun {p} hp => ⟨fun z => (by obtain ⟨o, ho⟩ := f5.at1; rw [← z, hp] at ho; cases ho), fun z => (by obtain ⟨o, ho⟩ := f5.atL; rw [← z, hp] at ho; cases ho)⟩
      obtain ⟨l1, l2⟩ := hLfH hLf0
      -- some: the slips
      refine q_asgP (evn_is (evn_lcA (e := pk) (as := lf) (evl_var rfl hLf) (by omega) (fun q => if mk q = none then none else some (pk q)) (fun x q H7 hq e7 rx => ?_) (fun _ _ _ _ _ => g_mono_name)) (es := (lf.filter fun q => !decide (mk q = none)).map pk) ?_) fun v10 H7 e7 ⟨So, ev, hSo0, hSo⟩ => ?_
      · refine ⟨Ex.refl _, rfl, _, et_B (ev_notN (ev_get (E := eP) (p := q) (f := fun p => mkk (mk p)) (ev_var rfl) ((hmd5.ex e6).ex e7) (evd_var rfl rx) (keyD_pk q) (lfm q hq).1)), fun hb => ⟨pk q, ?_, evd_var rfl rx⟩, fun hb => ?_⟩
        · rw [mk_none] at hb
          rw [if_neg (by simpa using hb)]
        · rw [mk_none] at hb
          rw [if_pos (by simpa using hb)]
      · exact fm_if fun q => by by_cases h : mk q = none <;> simp [h]
      subst ev
      have e67 := e6.trans e7
      have f7 := f6.ex e7
      obtain ⟨s1, s2⟩ := hLfH (fresh_back e6 hSo0)
      -- some: in a drawer
      refine q_cut (M := fun σ' H8 => ∃ (z7 z11 : Option V) (A : Addr) (so : List Path), σ' = [some (V.ref F), some (.ref Rl), some (.bl true), some (.int most), some (.ref md), some (.ref wd), some (.ref td), z7, some (.int (i : Int)), some (.ref Lf), some (.ref A), z11, z12, z13, z14, z15, z16] ∧ ExB F H7 H8 ∧ FeedAt H8 F L ∧ LstD H8 A (so.map pk) ∧ A ≠ F ∧ so.Nodup ∧ (∀ s ∈ so, s ∈ ks ∧ s ∉ wk) ∧ ((∀ s ∈ so, mk s ≠ none) ∨ ∃ d : Path, ∀ s ∈ so, s.dropLast = d)) ?_ fun σ8 H8 hp8 => ?_
      · refine s_whenF (Pb := fun bb => bb = true → lf ≠ []) f7 (fun H8 e8 f8 Q' q => ?_) (fun H8 hb x8 f8 => ?_) (fun H8 hb x8 f8 => ?_)
        · refine et_ne (K := K) (evl_var rfl ((hLf.ex e7).exb e8 l1)) H8 (Ex.refl _) _ fun H9 e9 => ?_
          by_cases hlf : lf = []
          · rw [decide_eq_true hlf]
            show Q' false H9
            exact q false H9 (ExB.of e9) (f8.ex e9) fun h => nomatch h
          · rw [decide_eq_false hlf]
            refine evf_op (S := fun v _ => ∃ b, v = V.bl b) (P := IsN 0 2) (evf_drawC (F := F) (L := L) (H := H9) (m := 2) rfl) (upf_n _ _ _) evf_c (fun x y H5 e5 px py Q q => ?_) H9 (ExB.refl _ _) (f8.ex e9) _ fun vb H10 e10 f10 ⟨bb, ev⟩ => ?_
            · obtain ⟨j, rfl, _⟩ := px
              subst py
              exact ⟨rfl, q _ H5 (Ex.refl _) ⟨_, rfl⟩⟩
            · subst ev
              exact ⟨bb, rfl, q bb H10 ((ExB.of e9).trans e10) f10 fun _ => hlf⟩
        · have hlf := hb rfl
          have hLf8 := (hLf.ex e7).exb x8 l1
          have hpos : 0 < lf.length := List.length_pos_iff.mpr hlf
          -- the drawer
          have dr : EvF F L (tSl (rSlA K) (tOp (rIxL K) (tVar 9) (tCall spDraw [] E0 (tCons (tVar 0) (tCons (tCB (rLenS K) (tCons (tVar 9) tNil)) tNil)))) tNoPart (tPart (tUn (rU fun i => .int (-i)) (tC (.int 1))))) [some (V.ref F), some (.ref Rl), some (.bl true), some (.int most), some (.ref md), some (.ref wd), some (.ref td), z7, some (.int (i : Int)), some (.ref Lf), some (.ref So), z11, z12, z13, z14, z15, z16] H8 (fun v H => ∃ d : Path, Rp H v (pk d)) := fun H9 e9 f9 Q' q =>
            evf_ixD (K := K) hLf8 l1 (fun _ _ => ev_var rfl) (evf_draw (fun _ _ => ev_var rfl) (fun H4 e4 => ev_lenL (evl_var rfl (hLf8.exb e4 l1))) (by rw [List.length_map]; omega) (by rw [List.length_map]; omega)) H9 e9 f9 _ fun v H10 e10 f10 ⟨dd, hdd, rd⟩ => by
              obtain ⟨s, hs, rfl⟩ := List.mem_map.mp hdd
              have key := evd_init (K := K) (σ := [some v]) (H := H10) (ta := tVar 0) (evd_var rfl rd) H10 (Ex.refl _) Q' fun v' H11 e11 r => q v' H11 (e10.ex e11) (f10.ex e11) ⟨_, r⟩
              obtain ⟨v2, hv2, key⟩ := key
              cases hv2
              exact key
          refine q_asgF f8 dr fun vd H9 e9 f9 ⟨d, rd⟩ => ?_
          have hLf9 := hLf8.exb e9 l1
          refine s_asgP (evn_is (evn_lcA (e := pk) (as := lf) (evl_var rfl hLf9) (by omega) (fun q : Path => if q.dropLast = d then some (pk q) else none) (fun x q H10 hq e10 rx => ?_) (fun _ _ _ _ _ => g_mono_name)) (es := (lf.filter (fun q : Path => decide (q.dropLast = d))).map pk) ?_) fun vA H10 e10 ⟨A, ev, hA0, hA⟩ => ?_
          · refine ⟨Ex.refl _, rfl, _, et_test (ev_eqP (p := q.dropLast) (q := d) (evd_init (evd_var rfl rx)) (evd_var rfl (rd.ex e10))), fun hb => ⟨pk q, ?_, evd_var rfl rx⟩, fun hb => ?_⟩
            · rw [if_pos (by simpa using hb)]
            · rw [if_neg (by simpa using hb)]
          · exact fm_if fun q => by by_cases h : q.dropLast = d <;> simp [h]
          subst ev
          have nAF : A ≠ F := fun z => by obtain ⟨o, ho⟩ := f9.at1; rw [← z, hA0] at ho; cases ho
          refine ⟨_, _, A, _, rfl, (x8.trans e9).ex e10, f9.ex e10, hA, nAF, lfn.filter _, fun s hs => lfm s (List.mem_filter.mp hs).1, .inr ⟨d, fun s hs => ?_⟩⟩
          simpa using (List.mem_filter.mp hs).2
        · exact ⟨_, _, So, _, rfl, x8, f8, hSo.exb x8 s1, s1, lfn.filter _, fun s hs => lfm s (List.mem_filter.mp hs).1, .inl fun s hs => by simpa using (List.mem_filter.mp hs).2⟩
      · obtain ⟨y7, y11, A, so, rfl, x8, f8, hA, nAF, son, som, same⟩ := hp8
        have sol : so.length ≤ 18 := Nat.le_trans (nodup_few son fun s hs => (som s hs).1) kfew
        have x08 : ExB F H H8 := (x6.ex e7).trans x8
        have hmd8 := (hmd5.ex e67).exb x8 m1
        have hwd8 := (hwd5.ex e67).exb x8 w1
        have hgk8 := (hgk5.ex e67).exb x8 t1
        -- some of them
        refine q_asgF f8 (evf_call (P := fun v H' => ∃ p es rest, v = .ref p ∧ H8 p = none ∧ LstD H' p es ∧ (es ++ rest).Perm (so.map pk)) (Ps := [fun v _ => v = .ref F, fun v _ => v = .ref A, IsN 1 (1 + 5)]) (efs_cons (evf_var rfl) (upf_v _) (efs_cons (evf_var rfl) (upf_v _) (efs_cons (evf_plus (P' := fun _ _ => True) (evf_drawC (m := 5) rfl)) (upf_n _ _ _) efs_nil))) fun H9 vs e9 f9 ha Q' q => ?_) fun v10 H9 e9 f9 ⟨B, es, rest, ev, hB0, hB, hperm⟩ => ?_
        · obtain ⟨_, _, _, rfl, rfl, rfl, ⟨n, rfl, _, _⟩⟩ := ps3 ha
          exact ⟨F, L, A, n, so.map pk, rfl, f9, hA.exb e9 nAF, nAF, by rw [List.length_map]; omega, dep_paths so, fun v H10 e10 f10 ⟨p, es, rest, h1, h0, h2, h3, _⟩ => q v H10 e10 f10 ⟨p, es, rest, h1, (by
            cases hz : H8 p with
            | none => rfl
            | some o =>
              by_cases hpF : p = F
              · subst hpF; obtain ⟨o', ho'⟩ := f9.at1; rw [h0] at ho'; cases ho'
              · rw [e9.1 p o hpF hz] at h0; cases h0), h2, h3⟩⟩
        subst ev
        obtain ⟨sq, hsq, hes⟩ : ∃ sq : List Path, sq.Perm so ∧ es ++ rest = sq.map pk := perm_map_inv hperm
        obtain ⟨sb, hsb, hsb2, hsb3⟩ : ∃ sb : List Path, es = sb.map pk ∧ sb.Nodup ∧ ∀ s ∈ sb, s ∈ so := by
          refine ⟨sq.take es.length, ?_, (List.take_sublist _ _).nodup (hsq.nodup_iff.mpr son), fun s hs => hsq.mem_iff.mp (List.mem_of_mem_take hs)⟩
          rw [List.map_take, ← hes, List.take_left']
          rfl
        subst hsb
        have hBF : B ≠ F := fun z => by obtain ⟨o, ho⟩ := f8.at1; rw [← z, hB0] at ho; cases ho
        have sbl : sb.length ≤ 18 := Nat.le_trans (nodup_few hsb2 fun s hs => (som s (hsb3 s hs)).1) kfew
        have sbm : ∀ s ∈ sb, s ∈ ks ∧ s ∉ wk := fun s hs => som s (hsb3 s hs)
        have sbs : (∀ s ∈ sb, mk s ≠ none) ∨ ∃ d, ∀ s ∈ sb, s.dropLast = d := same.elim (fun h => .inl fun s hs => h s (hsb3 s hs)) fun ⟨d, h⟩ => .inr ⟨d, fun s hs => h s (hsb3 s hs)⟩
        refine q_asgF f9 (evf_drawC (m := 3) rfl) fun v12 H10 e10 f10 ⟨way, ev, way0, way1⟩ => ?_
        subst ev
        refine q_asg ev_c fun H11 e11 => ?_
        have x811 : ExB F H8 H11 := (e9.trans e10).ex e11
        have f11 := f10.ex e11
        have hB11 := (hB.exb e10 hBF).ex e11
        have sbg : ∀ s ∈ sb, ∀ n ∈ s, okS n = true := fun s hs => RO.ok s (sbm s hs).1
        have x011 : ExB F H H11 := x08.trans x811
        have hmd11 := hmd8.exb x811 m1
        have hwd11 := hwd8.exb x811 w1
        have hgk11 := hgk8.exb x811 t1
        refine q_cut (M := fun σ' H12 => ∃ lv : V, σ' = [some (V.ref F), some (.ref Rl), some (.bl true), some (.int most), some (.ref md), some (.ref wd), some (.ref td), y7, some (.int (i : Int)), some (.ref Lf), some (.ref B), y11, some (.int way), some lv, z14, z15, z16] ∧ Ex H11 H12 ∧ (lv = .non ∨ (way = 0 ∧ ∃ s0, sb.head? = some s0 ∧ Rp H12 lv (pk s0)))) ?_ fun σ12 H12 hp12 => ?_
        · refine s_when (et_and (et_ne (K := K) (evl_var rfl hB11)) fun _ => et_test (ev_eqI (ev_var rfl) ev_c)) (fun hb H12 e12 => ?_) (fun hb H12 e12 => ⟨_, rfl, e12, .inl rfl⟩)
          rw [Bool.and_eq_true] at hb
          have hne : sb ≠ [] := by simpa using hb.1
          obtain ⟨s0, r0, rfl⟩ : ∃ s0 r0, sb = s0 :: r0 := by
            cases sb with
            | nil => exact absurd rfl hne
            | cons a r => exact ⟨a, r, rfl⟩
          refine s_asgP (evd_ixL (i := ((0 : Nat) : Int)) (evl_var rfl (hB11.ex e12)) ev_c (atI_nat (v := pk s0) rfl)) fun lv H13 e13 rl => ?_
          exact ⟨lv, rfl, e12.trans e13, .inr ⟨of_decide_eq_true hb.2, s0, rfl, rl⟩⟩
        obtain ⟨lv0, rfl, e1112, hlv0⟩ := hp12
        have f12 := f11.ex e1112
        have hB12 := hB11.ex e1112
        refine q_cut (M := fun σ' H13 => ∃ lv : V, σ' = [some (V.ref F), some (.ref Rl), some (.bl true), some (.int most), some (.ref md), some (.ref wd), some (.ref td), y7, some (.int (i : Int)), some (.ref Lf), some (.ref B), y11, some (.int way), some lv, z14, z15, z16] ∧ ExS td F H12 H13 ∧ FeedAt H13 F L ∧ ((lv = .non ∧ Ky eS w H13 td gk) ∨ (∃ la gk', Rp H13 lv (pk la) ∧ sb ≠ [] ∧ LastOk ks mk gk sb la gk' ∧ Ky eS w H13 td gk' ∧ gk'.length ≤ gk.length + 1))) ?_ fun σ13 H13 hp13 => ?_
        · refine s_when (et_and (et_ne (K := K) (evl_var rfl hB12)) fun _ => et_test (ev_op (ev_var rfl) ev_c rv_I0)) (fun hb H13 e13 => ?_) (fun hb H13 e13 => ?_)
          · rw [Bool.and_eq_true] at hb
            have hne : sb ≠ [] := by simpa using hb.1
            have hsl : sb.getLast? = some (sb.getLast hne) := List.getLast?_eq_some_getLast hne
            have hat : atI (sb.map pk) (-1) = some (pk (sb.getLast hne)) := by
              have e : sb.map pk = sb.dropLast.map pk ++ [pk (sb.getLast hne)] := by
                conv => lhs; rw [← List.dropLast_concat_getLast hne]
                rw [List.map_append]
                rfl
              rw [e]
              exact atI_last _ _
            have hlk := sbm _ (List.getLast_mem hne)
            refine s_callP (Ps := [fun v _ => v = .ref F, fun v _ => v = .ref md, IsD (pk (sb.getLast hne)), fun v _ => v = .ref td, fun v _ => v = .bl true]) (eps_cons (evp_ev (ev_var rfl) fun _ _ => rfl) (fun _ _ _ _ h => h) (eps_cons (evp_ev (ev_var rfl) fun _ _ => rfl) (fun _ _ _ _ h => h) (eps_cons (evd_ixL (K := K) (evl_var rfl (hB12.ex e13)) ev_m1 hat) (up_d _) (eps_cons (evp_ev (ev_var rfl) fun _ _ => rfl) (fun _ _ _ _ h => h) (eps_cons (evp_ev (ev_var rfl) fun _ _ => rfl) (fun _ _ _ _ h => h) eps_nil))))) fun H14 vs e14 ha => ?_
            obtain ⟨_, _, vl, _, _, rfl, rfl, rfl, rl, rfl, rfl⟩ := ps5 ha
            have e1214 := e13.trans e14
            refine ⟨F, L, md, vl, td, true, ks, mk, sb.getLast hne, gk, rfl, f12.ex e1214, hmd11.ex (e1112.trans e1214), hgk11.ex (e1112.trans e1214), rl, hlk.1, RO.ne, RO.len, RO.dr, kfew, by omega, fun v' H15 x15 f15 hres => ?_⟩
            refine ⟨v', rfl, (ExS.of e1214).trans x15, f15, ?_⟩
            rcases hres with ⟨h1, h2⟩ | ⟨d, nm, h1, h2, h3, h4, h5, h6, h7⟩
            · exact .inl ⟨h1, h2⟩
            · refine .inr ⟨d ++ [nm], _, h1, hne, .inr ⟨d, nm, rfl, h3, h4, fun s hs hn => ?_, h6, rfl⟩, h7, by simp⟩
              rw [hsl] at hs
              cases hs
              exact h5 hn
          · refine ⟨lv0, rfl, ExS.of e13, f12.ex e13, ?_⟩
            rcases hlv0 with h | ⟨h1, s0, h2, h3⟩
            · exact .inl ⟨h, hgk11.ex (e1112.trans e13)⟩
            · exact .inr ⟨s0, gk, h3.ex e13, (by intro z; rw [z] at h2; cases h2), .inl ⟨h2, rfl⟩, hgk11.ex (e1112.trans e13), by omega⟩
        obtain ⟨lv, rfl, xs13, f13, hlv⟩ := hp13
        have x013 : ExB F H H13 := ExS.to (x011.ex e1112) htH xs13
        have hmd13 := (hmd11.ex e1112).exs xs13 nmt m1
        have hwd13 := (hwd11.ex e1112).exs xs13 nwt w1
        rcases hlv with ⟨rfl, hgk13⟩ | ⟨la, gk', rl, hne, hLast, hgk13, hgl13⟩
        · refine s_when (et_B (ev_notN (d := .none) (evd_var rfl .non))) (fun hb => by simp at hb) (fun hb H14 e14 => ?_)
          exact ⟨⟨_, _, _, _, _, _, _, _, _, _, rfl⟩, x013.ex e14, f13.ex e14, hmd13.ex e14, wk, wf, gk, hwd13.ex e14, hgk13.ex e14, by omega, WS⟩
        refine s_when (et_B (ev_notN (evd_var rfl rl))) (fun hb H14 e14 => ?_) (fun hb => by simp [pk] at hb)
        have nBt : B ≠ td := fun z => by obtain ⟨o, ho⟩ := hgk11.at; exact lst_no (z ▸ hB11) ho
        have hB14 := (LstD.exs xs13 nBt hBF hB12).ex e14
        have rl14 := rl.ex e14
        have f14 := f13.ex e14
        have hwd14 := hwd13.ex e14
        have ets : cut (sb.map pk) (some ((1 : Nat) : Int)) none ++ [pk la] = (sb.drop 1 ++ [la]).map pk := by rw [cut_from, List.map_append, List.map_drop]; rfl
        have EA : EvPs (tCons (tVar 10) (tCons (tOp rCat (tSl (rSlL K) (tVar 10) (tPart (tC (.int 1))) tNoPart) (tLst (tCons (tVar 13) tNil))) tNil)) [some (V.ref F), some (.ref Rl), some (.bl true), some (.int most), some (.ref md), some (.ref wd), some (.ref td), y7, some (.int (i : Int)), some (.ref Lf), some (.ref B), y11, some (.int way), some lv, z14, z15, z16] H14 [fun v _ => v = .ref B, NewL H14 ((sb.drop 1 ++ [la]).map pk)] := eps_cons (P := fun v _ => v = .ref B) (evp_ev (ev_var rfl) fun _ _ => rfl) (fun _ _ _ _ h => h) (eps_cons (evn_is (evn_cat (EvN.any (evn_cut (K := K) (evl_var rfl hB14) (eo_some (i := ((1 : Nat) : Int)) ev_c) eo_none)) (EvN.any (evn_lst (eds_cons (evd_var rfl rl14) eds_nil) (by simp))) (by rw [cut_from]; simp; omega)) ets) (up_n _ _) eps_nil)
        show iZip K _ _ _ _
        refine iz_raw EA fun vs H15 e15 ha => ?_
        obtain ⟨_, _, rfl, rfl, ⟨C, rfl, hC0, hC⟩⟩ := ps2 ha
        obtain ⟨xs, bx1, bx2⟩ := hB14.ex e15
        obtain ⟨ys, cy1, cy2⟩ := hC
        have xl : xs.length = sb.length := by rw [bx2.length, List.length_map]
        have sbpos : 0 < sb.length := List.length_pos_iff.mpr hne
        have yl : ys.length = sb.length := by rw [cy2.length, List.length_map, List.length_append, List.length_drop, List.length_singleton]; omega
        have nCF : C ≠ F := fun z => by obtain ⟨o, ho⟩ := f14.at1; rw [← z, hC0] at ho; cases ho
        have nCw : C ≠ wd := fun z => by obtain ⟨o, ho⟩ := (hwd14.ex e15).at; rw [← z, cy1] at ho; cases ho
        have nBw : B ≠ wd := fun z => by obtain ⟨o, ho⟩ := (hwd14.ex e15).at; rw [← z, bx1] at ho; cases ho
        have wdL : wd ≠ L := w2
        refine ⟨B, C, xs, ys, rfl, sq_of bx1, sq_of cy1, RZ.for_zipL (xs := xs) (ys := ys) (by omega) (fun j σ' H' => (∃ z14 z15 z16, σ' = [some (V.ref F), some (.ref Rl), some (.bl true), some (.int most), some (.ref md), some (.ref wd), some (.ref td), y7, some (.int (i : Int)), some (.ref Lf), some (.ref B), y11, some (.int way), some lv, z14, z15, z16]) ∧ ExS wd F H15 H' ∧ FeedAt H' F L ∧ ∃ wf', Fd eP w H' wd (wk ++ sb.take j) (fun p => pk (wf' p)) ∧ (∀ p ∈ wk, wf' p = wf p) ∧ ∀ (i' : Nat) (s t : Path), i' < j → sb[i']? = some s → (sb.drop 1 ++ [la])[i']? = some t → wf' s ≠ [] ∧ (wf' s).dropLast = t.dropLast ∧ low (lst (wf' s)) = low (lst t))
          ⟨⟨_, _, _, rfl⟩, ExS.of (Ex.refl _), f14.ex e15, wf, by rw [List.take_zero, List.append_nil]; exact hwd14.ex e15, fun p hp => rfl, fun i' s t h => absurd h (Nat.not_lt_zero _)⟩
          (fun j σ' H' hp => ⟨sq_of (hp.2.1.1 _ _ nBw hBF bx1), sq_of (hp.2.1.1 _ _ nCw nCF cy1)⟩) (fun j x y Tt σ' H' hx hy hp hT => ?_) (fun σ' H' hp => ?_)⟩
        · obtain ⟨⟨z14, z15, z16, rfl⟩, xs', f', wf', hwd', hold', hnew'⟩ := hp
          obtain ⟨ds, hds, rds⟩ := bx2.get hx
          obtain ⟨dt, hdt, rdt⟩ := cy2.get hy
          rw [List.getElem?_map] at hds hdt
          cases hs : sb[j]? with
          | none => rw [hs] at hds; cases hds
          | some sj =>
          cases ht : (sb.drop 1 ++ [la])[j]? with
          | none => rw [ht] at hdt; cases hdt
          | some tj =>
          rw [hs] at hds
          rw [ht] at hdt
          cases hds
          cases hdt
          have hsj := List.mem_of_getElem? hs
          have hjlt : j < sb.length := (List.getElem?_eq_some_iff.mp hs).1
          have rs := (rds.tk xs'.2).ex (Ex.new (o := .tup [x, y]) hT)
          have rt := (rdt.tk xs'.2).ex (Ex.new (o := .tup [x, y]) hT)
          have eT : Ex H' (upd H' Tt (.tup [x, y])) := Ex.new hT
          have tne : tj ≠ [] := by
            rcases List.mem_append.mp (List.mem_of_getElem? ht) with h | h
            · exact RO.ne tj (sbm tj (List.mem_of_mem_drop h)).1
            · rw [List.mem_singleton.mp h]
              rcases hLast with ⟨h, _⟩ | ⟨d, nm, h, _⟩
              · exact RO.ne la (sbm la (List.mem_of_head? h)).1
              · rw [h]; simp
          refine g_two (d := pk sj) (e := pk tj) (.tup upd_same (.cons rs (.cons rt .nil))) fun vx vy rx ry => ?_
          refine q_asgP (evd_last (evd_var rfl ry) tne) fun vn H16 e16 rn => ?_
          have hnok := Rp.names ry _ (lst_mem tne)
          cases (show Rp H16 vn (.text (lst tj)) from rn) with
          | str _ hok =>
          refine q_when (b := true) (et_B (ev_var rfl)) (fun _ H17 e17 => ?_) (fun h => nomatch h)
          have f17 := ((f'.ex eT).ex e16).ex e17
          refine s_asgF f17 (evf_call (P := IsT fun r => okS r = true ∧ low r = low (lst tj)) (Ps := [fun v _ => v = .ref F, fun v _ => v = .str (lst tj)]) (efs_cons (evf_var rfl) (upf_v _) (efs_cons (evf_var rfl) (upf_v _) efs_nil)) fun H18 vs e18 f18 ha Q' q => ?_) fun v16 H18 e18 f18 ⟨nn, ev, nok, nlow⟩ => ?_
          · obtain ⟨_, _, rfl, rfl, rfl⟩ := ps2 ha
            exact ⟨F, L, _, rfl, f18, hok, q⟩
          subst ev
          have e1517 := (eT.trans e16).trans e17
          have xs18 : ExS wd F H15 H18 := (xs'.trans (ExS.of e1517)).trans (ExS.m e18)
          have rx18 := (rx.ex (e16.trans e17)).tk e18.2
          have ry18 := (ry.ex (e16.trans e17)).tk e18.2
          have hwd18 := (hwd'.ex e1517).exb e18 w1
          have hjn := nodup_take_not hsb2 hs
          have hnin : sj ∉ wk ++ sb.take j := fun h => (List.mem_append.mp h).elim (sbm sj hsj).2 hjn
          have tdl : tj.dropLast.length ≤ 50 := by
            rcases List.mem_append.mp (List.mem_of_getElem? ht) with h | h
            · have := RO.len tj (sbm tj (List.mem_of_mem_drop h)).1; rw [List.length_dropLast]; omega
            · rw [List.mem_singleton.mp h]
              rcases hLast with ⟨h, _⟩ | ⟨d, nm, h, _, hd5, _⟩
              · have := RO.len la (sbm la (List.mem_of_head? h)).1; rw [List.length_dropLast]; omega
              · rw [h, List.dropLast_concat]; omega
          refine s_putF (E := eP) (p := sj) (e := pk (tj.dropLast ++ [nn])) (evd_snoc (evd_init (evd_var rfl ry18)) (evd_txt (ev_var rfl) nok) (by omega)) (ev_var rfl) (evd_var rfl rx18) (keyD_pk sj) hwd18 (by rw [List.length_append, List.length_take]; omega) fun H19 e19 hwd19 => ?_
          rw [kins_new hnin, List.append_assoc, ← take_snoc hs] at hwd19
          refine ⟨⟨_, _, _, rfl⟩, xs18.trans (ExS.s e19), f18.exb e19 w1.symm wdL.symm, fput wf' sj (tj.dropLast ++ [nn]), ?_, fun p hp => ?_, fun i' s t hi' hs' ht' => ?_⟩
          · refine hwd19.congr fun q hq => ?_
            by_cases e : q = sj
            · rw [e, fput_same, fput_same]
            · rw [fput_ne e, fput_ne e]
          · have hne' : p ≠ sj := fun e => (sbm sj hsj).2 (e ▸ hp)
            rw [fput_ne hne']
            exact hold' p hp
          · rcases Nat.lt_succ_iff_lt_or_eq.mp hi' with h | h
            · have hne' : s ≠ sj := fun e => hjn (by
                rw [← e]
                exact List.mem_of_getElem? (i := i') (by rw [List.getElem?_take_of_lt h]; exact hs'))
              rw [fput_ne hne']
              exact hnew' i' s t h hs' ht'
            · subst h
              rw [hs] at hs'
              rw [ht] at ht'
              cases hs'
              cases ht'
              rw [fput_same]
              exact ⟨by simp, List.dropLast_concat, by rw [lst_snoc]; exact nlow⟩
        · obtain ⟨⟨z14, z15, z16, rfl⟩, xs', f', wf', hwd', hold', hnew'⟩ := hp
          rw [xl, List.take_length] at hwd'
          rw [xl] at hnew'
          have x0 : ExB F H H' := ExS.to ((x013.ex e14).ex e15) hwH xs'
          refine ⟨⟨_, _, _, _, _, _, _, _, _, _, rfl⟩, x0, f', ((hmd13.ex e14).ex e15).exs xs' nmw m1, wk ++ sb, wf', gk', hwd', ((hgk13.ex e14).ex e15).exs xs' nwt.symm t1, by omega, WishSt.turn RO WS hne hsb2 (fun s hs => (sbm s hs).1) (fun s hs => (sbm s hs).2) sbs hLast hold' fun i' s t hs' ht' => hnew' i' s t (List.getElem?_eq_some_iff.mp hs').1 hs' ht'⟩
    · obtain ⟨⟨z7, z8, z9, z10, z11, z12, z13, z14, z15, z16, rfl⟩, x5, f5, hmd5, wk, wf, gk, hwd5, hgk5, hgl5, WS⟩ := hp
      exact s_retE (evp_ev (P := fun v _ => v = .ref wd) (ev_var rfl) fun _ _ => rfl) fun v H6 e6 ev => k v H6 (x5.ex e6) (f5.ex e6) ⟨wd, wk, wf, ev, hwH, hwd5.ex e6, WS.w⟩
end
end R
/-! W24: in an order; small paths; pairs -/
namespace R
open PySem PySem.Spec PyProof.Rows L2 Evl

theorem len_raw {prog : Program} {w : World} {A : Around} {E : Value → Shared → Prop} {s : Shared} {d : Addr} {es : Array DictEntry} {ep : Nat} {Q : Value → Shared → Prop} (hb : (d == sysModules) = false) (hraw : s.heap.DictRaw d es ep) (hz : (es.size : Int) < 2 ^ 63)
    (h : Q (.int es.size (s.toks + 1)) { s with toks := s.toks + 1 + 1 }) : wpAny (model prog w) A (call (.builtin "len") [.ref d]) Q E s := by
  refine Calls.call_function_entry kind_len plain_len entry_len (args_len1 _) ?_
  unfold Builtin.len
  refine wpAny_bind (m := oneArg "len" _) (wpAny_pure ?_)
  refine wpAny_bind (m := callSpecial? (.ref d) (Str.ofString "__len__")) ?_
  have lt0 : ¬ ((es.size : Nat) : Int) < 0 := by omega
  have lt1 : ¬ ((es.size : Nat) : Int) ≥ 2 ^ 63 := by omega
  refine wpAny_callSpecial?_slot (name := Str.ofString "__len__") hraw.typeIs F.slot_dict_len ?_
  refine call_meetsIn F.slot_dict_len hraw.typeIs F.entry_dict_len (F.args_dict_len_1 _) (PySem.meets_dict_len_raw d hb) ⟨es, ep, hraw, ?_⟩
  show wpAny _ _ _ _ _ { s with toks := s.toks + 1 }
  refine wpAny_bind (wpAny_holding (wpAny_pure (?_)))
  refine wpAny_bind (wpAny_letGo (?_))
  show wpAny _ _ (if ((es.size : Nat) : Int) < 0 then _ else _) _ _ _
  rw [if_neg lt0]
  show wpAny _ _ (if ((es.size : Nat) : Int) ≥ 2 ^ 63 then _ else _) _ _ _
  rw [if_neg lt1]
  refine wpAny_bind (wpAny_mkInt (wpAny_pure ⟨_, rfl, ?_⟩))
  exact h
section
variable {X : Cx}
/-- len(a dict) -/
theorem call_lenN : CallR X (.builtin "len") (fun vs H Q => ∃ d kvs, vs = [.ref d] ∧ Dct X.w H d kvs ∧ Q (.int kvs.length) H) := by
  intro pins s σ H xs us Q I r h
  obtain ⟨d, kvs, rfl, ⟨o, g⟩, q⟩ := h
  obtain ⟨u, rfl, ru⟩ := vals1 r
  cases ru
  obtain ⟨h1, hb, hx, hl, es, ep, hdt, hrest⟩ := id g
  have hsz := g.size hdt
  have hl' : kvs.length ≤ sizeLine := hl
  have hs : sizeLine < 2 ^ 62 := by decide
  refine len_raw hb (g.raw I hdt) (by omega) ⟨.int kvs.length, H, I.tok _, ?_, q⟩
  rw [hsz]
  exact ⟨_, rfl⟩
end
end R
/-! W25: in an order; small paths; pairs -/
namespace R
open PySem L2 Evl
def smallP (p : Path) : Path := p.map low
def minP (p q : Path) : Path := if PySem.W.dataLt (pk q).data (pk p).data = true then q else p
def maxP (p q : Path) : Path := if PySem.W.dataLt (pk p).data (pk q).data = true then q else p
def pairD (m : Path × Path) : D := pr (pk m.1) (pk m.2)
def spOrder (w : World) : Sp := fun vs H Q _ => ∃ F L wd wk wf, vs = [.ref F, .ref wd] ∧ FeedAt H F L ∧ Fd eP w H wd wk (fun p => pk (wf p)) ∧ wk.length ≤ 40 ∧ (∀ p ∈ wk, p ≠ []) ∧
  RetF F L (fun v H' => ∃ p wk', v = .ref p ∧ H p = none ∧ LstD H' p (wD wk' wf) ∧ wk'.Perm wk) H Q
def spSmall : Sp := fun vs H Q _ => ∃ v p, vs = [v] ∧ Rp H v (pk p) ∧ p.length ≤ 50 ∧ RetP (IsD (pk (smallP p))) H Q
def spPairs : Sp := fun vs H Q _ => ∃ (a : Addr) (ms : List Meet), vs = [.ref a] ∧ LstD H a (ms.map trD) ∧ ms.length ≤ 40000 ∧ (∀ m ∈ ms, m.1.length ≤ 50 ∧ m.2.1.length ≤ 50) ∧ RetP (NewL H (sortD ((ms.map fun m => (smallP m.1, smallP m.2.1)).map pairD))) H Q
def spTurned : Sp := fun vs H Q _ => ∃ (a : Addr) (ms : List (Path × Path)), vs = [.ref a] ∧ LstD H a (ms.map pairD) ∧ ms.length ≤ 40000 ∧ RetP (NewL H (sortD ((ms.map fun m => (minP m.1 m.2, maxP m.1 m.2)).map pairD))) H Q
theorem sortOk_pair (ms : List (Path × Path)) : SortOk (ms.map pairD) where
  alike := fun d hd e he => by
    obtain ⟨_, h1, rfl⟩ := List.mem_map.mp hd
    obtain ⟨_, h2, rfl⟩ := List.mem_map.mp he
    obtain ⟨p, _, rfl⟩ := List.mem_map.mp h1
    obtain ⟨q, _, rfl⟩ := List.mem_map.mp h2
    simp only [pairD, pr, NestedKey.data, NestedKey.datas, PySem.W.alike, PySem.W.alikeAll]
    simp only [al_pk, Bool.and_self]
  tup := fun d hd => by
    obtain ⟨p, hp, rfl⟩ := List.mem_map.mp hd
    exact ⟨_, _, rfl⟩
  dep := fun d hd => by
    obtain ⟨p, hp, rfl⟩ := List.mem_map.mp hd
    unfold pairD pr
    rw [NestedKey.depth, NestedKey.depthAll, NestedKey.depthAll, NestedKey.depthAll, dep_pk, dep_pk]
    decide
/-- a pure comprehension over a tuple, without a test -/
theorem evn_lcT {α : Type} {K : PySem.W.Frag} {σ : L2.St} {H : Hp} {te tl : TE} {g : TG} {vs : List Nat} {as : List α} {e : α → D} (h : EvD tl σ H (.tup (as.map e))) (hz : as.length ≤ 50000) (f : α → D)
    (hs : ∀ v a H1, a ∈ as → Ex H H1 → Rp H1 v (e a) → g v (wipe σ vs) H1 fun σ2 H2 => Ex H1 H2 ∧ wipe σ2 vs = wipe σ vs ∧ EvD te σ2 H2 (f a))
    (hg : ∀ v σ' H' (Q Q' : L2.St → Hp → Prop), (∀ σ2 H2, Q σ2 H2 → Q' σ2 H2) → g v σ' H' Q → g v σ' H' Q') : EvN (tLc (iTup K tl) g tYes te vs) σ H (as.map f) := fun H0 e0 Q q =>
  h H0 e0 _ fun v H1 e1 pv => by
    cases (show Rp H1 v _ from pv) with
    | tup h1 h2 =>
    rename_i a xs
    refine ⟨a, rfl, ⟨xs, st_of h1⟩, fun Dl hD => lc_tup (K := K) (a := a) (xs := xs) (fun i H' => Ex H1 H' ∧ i ≤ as.length ∧ LstD H' Dl ((as.take i).map f)) ⟨Ex.new hD, Nat.zero_le _, [], upd_same, .nil⟩ (fun i H' _ p => st_of (p.1 _ _ h1)) (fun i x H' hi p => ?_) (fun H' p => ?_)⟩
    · obtain ⟨d, hd, r⟩ := h2.get hi
      obtain ⟨p1, pi, p2⟩ := p
      rw [List.getElem?_map] at hd
      cases ha : as[i]? with
      | none => rw [ha] at hd; cases hd
      | some y =>
      rw [ha] at hd
      cases hd
      have hlt : i < as.length := (List.getElem?_eq_some_iff.mp ha).1
      have et : as.take (i + 1) = as.take i ++ [y] := by rw [List.take_add_one, ha]; rfl
      refine hg _ _ _ _ _ (fun σ2 H2 hq => ?_) (hs x y H' (List.mem_of_getElem? ha) ((e0.trans e1).trans p1) (r.ex p1))
      obtain ⟨e2, hw, hE⟩ := hq
      refine ⟨hw, ?_⟩
      show te σ2 H2 _
      refine hE H2 (Ex.refl _) _ fun z H4 e4 py => ?_
      have pe : Ex H1 H2 := p1.trans e2
      obtain ⟨acc, k1, k2⟩ := (p2.ex e2).ex e4
      have eb : ExB Dl H4 (upd H4 Dl (.lst (acc ++ [z]))) := ExB.upd fun ys q => by rw [k1] at q; cases q
      refine ⟨acc, k1, sz_lt (by rw [k2.length, List.length_map, List.length_take]; omega), eb.anch (pe.trans e4) hD, hlt, ?_⟩
      rw [et, List.map_append]
      exact ⟨_, upd_same, (k2.tk eb.2).append (.one (Rp.tk eb.2 py))⟩
    · obtain ⟨p1, _, p2⟩ := p
      rw [h2.length, List.length_map, List.take_length] at p2
      exact q _ H' (e1.trans p1) ⟨Dl, rfl, fresh_back (e0.trans e1) hD, p2⟩
theorem evd_tupof {K : PySem.W.Frag} {σ : L2.St} {H : Hp} {te : TE} {ds : List D} (h : EvLs te σ H ds) : EvD (tCB (fun xs H Q => ∃ p ys, xs = [.ref p] ∧ ((SqL K H p ys ∧ ∀ l, H l = none → Q (.ref l) (upd H l (.tup ys))) ∨ (SqT K H p ys ∧ Q (.ref p) H))) (tCons te tNil)) σ H (.tup ds) := fun H0 e0 Q q =>
  h H0 e0 _ fun v H1 e1 ⟨a, ev, xs, h1, h2⟩ => by
    subst ev
    exact ⟨a, xs, rfl, .inl ⟨SqL.of h1, fun l hl => q _ _ (e1.trans (Ex.new hl)) (.tup upd_same (h2.ex (Ex.new hl)))⟩⟩
theorem s_callRet {σ : L2.St} {H : Hp} {N : Ends} {sp : Sp} {E : XK} {ta : TA} {Ps : List (V → Hp → Prop)} (h : EvPs ta σ H Ps) (hs : ∀ H1 vs, Ex H H1 → PsOk H1 Ps vs → sp vs H1 N.rt E) : tRet (tCall sp [] E ta) N σ H :=
  h H (Ex.refl _) _ fun vs H1 e1 p => by
    show sp (vs ++ []) H1 _ E
    rw [List.append_nil]
    exact hs H1 vs e1 p
section
variable {P : Program} {w : World} {K : PySem.W.Frag} {mg : Str → Option Value} {base : Heap}
theorem ok_small (T : Txt K mg) : FnOk P w K mg base CX0 1 T.l_small.f T.l_small.fd ["_law_path"] spSmall := by
  refine T.l_small.F.ok c_l_small (fun vs H Q E h => ?_) (fun cdv A outer sh H vs Q E hr h => ?_)
  · obtain ⟨_, _, rfl, _⟩ := h
    rfl
  · obtain ⟨v, p, rfl, rv, hl, k⟩ := h
    refine ⟨_, pss_one (ps_ret (pe_callTy call_tuple_of (by rfl) T.z_tuple (by decide +kernel) (pa_cons (pe_lc (own := [("_law_name", 1)]) (g := gName 1) (tt := tYes) (te := tM0 (rCase Txt.lower) (tVar 1)) rfl c_l_small.nd
      (pi_tup (pv 0)) (blkOk_by (N := n_l_small) (sc := defScope s_l_small) (by decide +kernel)) (fun _ _ _ _ _ => pg_name (i := 1) c_l_small.nd rfl (Or.inl rfl)) (fun _ _ _ _ _ => pts_nil) (fun _ _ _ _ _ => pe_lower (pv 1))) pa_nil))), ?_⟩
    refine s_retP (evd_is (evd_tupof (K := K) (EvN.any (evn_lcT (e := NestedKey.text) (as := p) (evd_var rfl rv) (by omega) (fun n => .text (low n)) (fun x n H1 hn e1 rx => ?_) (fun _ _ _ _ _ => g_mono_name)))) ?_) k
    · have hn := rv.names n hn
      exact ⟨Ex.refl _, rfl, evd_txt (ev_case (f := Txt.lower) (ev_txt (evd_var rfl rx)) (okS_len hn)) (okS_low hn)⟩
    · unfold smallP pk
      rw [List.map_map]
      rfl
theorem ok_in_order (T : Txt K mg) : FnOk P w K mg base CX0 3 T.l_in_order.f T.l_in_order.fd ["_law_feed", "_law_wishes"] (spOrder w) := by
  refine T.l_in_order.F.ok c_l_in_order (fun vs H Q E h => ?_) (fun cdv A outer sh H vs Q E hr h => ?_)
  · obtain ⟨_, _, _, _, _, rfl, _⟩ := h
    rfl
  · obtain ⟨F, L, wd, wk, wf, rfl, f, hw, hfew, hne, k⟩ := h
    have hr9 := room9 hr
    refine ⟨_, pss_one (ps_ret (pe_call (ok_some T) hr rfl T.l_some_of.g T.l_some_of.F.kp T.l_some_of.b .nil pass0 (pa_cons (pv 0) (pa_cons
      (pe_lc (own := [("_law_path", 2)]) (g := gName 2) (tt := tYes) (te := tTup (tCons (tVar 2) (tCons (tOp (rGetN w) (tVar 1) (tVar 2)) tNil))) rfl c_l_in_order.nd
        (pi_list (pe_callB (call_sortedN rfl hr9) (by rfl) T.z_sorted (by decide +kernel) (pa_cons (pv 1) pa_nil))) (blkOk_by (N := n_l_in_order) (sc := defScope s_l_in_order) (by decide +kernel)) (fun _ _ _ _ _ => pg_name (i := 2) c_l_in_order.nd rfl (Or.inl rfl)) (fun _ _ _ _ _ => pts_nil)
        (fun _ _ _ _ _ => pe_tup (pa_cons (pv 2) (pa_cons (pe_dgetN (by exact hr9) (pv 1) (pv 2)) pa_nil))))
      (pa_cons (pe_callB call_lenN (by rfl) T.z_len PySem.boot_len (pa_cons (pv 1) pa_nil)) pa_nil))))), ?_⟩
    have hl := sortP_len wk
    have EA : EvPs (tCons (tVar 0) (tCons (tLc (iList K (tCB (rSortN w) (tCons (tVar 1) tNil))) (gName 2) tYes (tTup (tCons (tVar 2) (tCons (tOp (rGetN w) (tVar 1) (tVar 2)) tNil))) [2]) (tCons (tCB (fun vs H Q => ∃ d kvs, vs = [.ref d] ∧ Dct w H d kvs ∧ Q (.int kvs.length) H) (tCons (tVar 1) tNil)) tNil))) [some (V.ref F), some (.ref wd), none] H [fun v _ => v = .ref F, NewL H (wD (sortP wk) wf), fun v _ => v = .int wk.length] := by
      refine eps_cons (evp_ev (ev_var rfl) fun _ _ => rfl) (fun _ _ _ _ h => h) (eps_cons (evn_lcY (e := pk) (as := sortP wk) (EvN.any (evn_sortK (ev_var rfl) hw.ky hne (by omega))) (by omega) (fun p => pr (pk p) (pk (wf p))) (fun x p H1 hp e1 rx => ?_) (fun _ _ _ _ _ => g_mono_name)) (up_n _ _) (eps_cons ?_ (fun _ _ _ _ h => h) eps_nil))
      · exact ⟨Ex.refl _, rfl, evd_tup (eds_cons (evd_var rfl rx) (eds_cons (ev_get (E := eP) (p := p) (f := fun p => pk (wf p)) (ev_var rfl) (hw.ex e1) (evd_var rfl rx) (keyD_pk p) (mem_sortP.mp hp)) eds_nil)) (by simp)⟩
      · intro H1 e1 Q q
        obtain ⟨o, g, h1, _⟩ := hw.ex e1
        exact ⟨_, rfl, wd, _, rfl, ⟨o, h1⟩, q _ H1 (Ex.refl _) (by rw [List.length_map])⟩
    refine s_callRet EA fun H1 vs e1 ha => ?_
    obtain ⟨_, _, _, rfl, rfl, ⟨A, rfl, hA0, hA⟩, rfl⟩ := ps3 ha
    have nAF : A ≠ F := fun z => by obtain ⟨o, ho⟩ := f.at1; rw [← z, hA0] at ho; cases ho
    have wl : (wD (sortP wk) wf).length = wk.length := by unfold wD; rw [List.length_map, hl]
    refine ⟨F, L, A, wk.length, wD (sortP wk) wf, rfl, f.ex e1, hA, nAF, by omega, depthAll_le.mpr fun d hd => ?_, fun v H2 e2 f2 ⟨p, es, rest, ev, hp0, hes, hperm, hrest⟩ => ?_⟩
    · obtain ⟨p, _, rfl⟩ := List.mem_map.mp hd
      unfold pr
      rw [NestedKey.depth, NestedKey.depthAll, NestedKey.depthAll, NestedKey.depthAll, dep_pk, dep_pk]
      decide
    · have hle := hperm.length_eq
      rw [List.length_append, wl] at hle
      have hr0 : rest = [] := by
        rcases Nat.lt_or_ge es.length wk.length with h | h
        · exact hrest (by omega)
        · exact List.length_eq_zero_iff.mp (by omega)
      rw [hr0, List.append_nil] at hperm
      obtain ⟨ys, h1, h2⟩ : ∃ ys : List Path, ys.Perm (sortP wk) ∧ es = ys.map fun p => pr (pk p) (pk (wf p)) := perm_map_inv hperm
      refine k v H2 ((ExB.of e1).trans e2) f2 ⟨p, ys, ev, fresh_back e1 hp0, ?_, h1.trans (List.mergeSort_perm _ _)⟩
      unfold wD
      rw [← h2]
      exact hes
end
end R
/-! W26: pairs, turned; the first two told alike -/
namespace R
open PySem L2 Evl
abbrev rMaxD : List V → Hp → VK → Prop := fun vs H Q => ∃ x y d e, vs = [x, y] ∧ Rp H x d ∧ Rp H y e ∧ PySem.W.alike d.data e.data = true ∧ d ≠ .none ∧ e ≠ .none ∧ d.depth ≤ 8 ∧ e.depth ≤ 8 ∧ ∀ z, Rp H z (if PySem.W.dataLt d.data e.data = true then e else d) → Q z H
abbrev rMinD : List V → Hp → VK → Prop := fun vs H Q => ∃ x y d e, vs = [x, y] ∧ Rp H x d ∧ Rp H y e ∧ PySem.W.alike d.data e.data = true ∧ d ≠ .none ∧ e ≠ .none ∧ d.depth ≤ 8 ∧ e.depth ≤ 8 ∧ ∀ z, Rp H z (if PySem.W.dataLt e.data d.data = true then e else d) → Q z H
theorem pk_nn (p : Path) : pk p ≠ .none := by simp [pk]
section
variable {σ : L2.St} {H : Hp} {ta tb : TE} {p q : Path}
theorem evd_max (ha : EvD ta σ H (pk p)) (hb : EvD tb σ H (pk q)) : EvD (tCB rMaxD (tCons ta (tCons tb tNil))) σ H (pk (maxP p q)) := fun H1 e1 Q k =>
  ha H1 e1 _ fun x H2 e2 px => hb H2 (e1.trans e2) _ fun y H3 e3 py => by
    refine ⟨x, y, pk p, pk q, rfl, Rp.ex e3 px, py, al_pk p q, pk_nn p, pk_nn q, pk_le8 p, pk_le8 q, fun z hz => k z H3 (e2.trans e3) ?_⟩
    unfold maxP
    split <;> rename_i h
    · rw [if_pos h] at hz; exact hz
    · rw [if_neg h] at hz; exact hz
theorem evd_min (ha : EvD ta σ H (pk p)) (hb : EvD tb σ H (pk q)) : EvD (tCB rMinD (tCons ta (tCons tb tNil))) σ H (pk (minP p q)) := fun H1 e1 Q k =>
  ha H1 e1 _ fun x H2 e2 px => hb H2 (e1.trans e2) _ fun y H3 e3 py => by
    refine ⟨x, y, pk p, pk q, rfl, Rp.ex e3 px, py, al_pk p q, pk_nn p, pk_nn q, pk_le8 p, pk_le8 q, fun z hz => k z H3 (e2.trans e3) ?_⟩
    unfold minP
    split <;> rename_i h
    · rw [if_pos h] at hz; exact hz
    · rw [if_neg h] at hz; exact hz
end
/-- what is to be shown of a hall and its wishes, plainly -/
structure AlikeT (ks : List Path) (mk : Path → Mark) (wk : List Path) (wf : Path → Path) (n : Nat) : Prop where
  g : GoodW ks mk wk wf
  wf0 : ∀ b, WfH b ks mk
  wf1 : WfH false (sortP ks) mk
  no : ∀ b, foundM b (plc wk wf) (sortP (sortP ks)) = []
  inj : ∀ p ∈ ks, ∀ q ∈ ks, thenP wk wf p = thenP wk wf q → p = q
  ah : ∀ b, AhOk (movers wk wf) (ahW b ks wk wf) n
  ri : ringsM (movers wk wf) (ahW false ks wk wf) n = ringsM (movers wk wf) (ahW true ks wk wf) n
  ch : chainsM (movers wk wf) (ahW false ks wk wf) n = chainsM (movers wk wf) (ahW true ks wk wf) n
  len : ∀ ms ms', RowOf true ks wk wf n ms → RowOf false ks wk wf n ms' → ms'.length = ms.length
  row : ∀ ms, RowOf true ks wk wf n ms → Legal false (sortP ks) id mk ms ∧ ∀ p ∈ ks, walkN ms id p = thenP wk wf p
def spAT : Sp := fun vs H Q _ => ∃ Ra Wa ks mk wk wf n, vs = [.ref Ra, .ref Wa] ∧ LstD H Ra (rowsD ks mk) ∧ LstD H Wa (wD wk wf) ∧ AlikeT ks mk wk wf n ∧ RetV (.bl true) H Q
theorem dep_llD (xss : List (List Path)) : ∀ ds ∈ llD xss, NestedKey.depthAll ds ≤ 3 := fun ds hds => by
  obtain ⟨xs, _, rfl⟩ := List.mem_map.mp hds
  exact depthAll_le.mpr fun d hd => by
    obtain ⟨p, _, rfl⟩ := List.mem_map.mp hd
    rw [dep_pk]
    decide
section
variable {P : Program} {w : World} {K : PySem.W.Frag} {mg : Str → Option Value} {base : Heap}
theorem ok_pairs (T : Txt K mg) : FnOk P w K mg base CX0 2 T.l_pairs_only.f T.l_pairs_only.fd ["_law_found"] spPairs := by
  refine T.l_pairs_only.F.ok c_l_pairs_only (fun vs H Q E h => ?_) (fun cdv A outer sh H vs Q E hr h => ?_)
  · obtain ⟨_, _, rfl, _⟩ := h
    rfl
  · obtain ⟨a, ms, rfl, hl, hz, hlen, k⟩ := h
    have hr9 := room9 hr
    refine ⟨_, pss_one (ps_ret (pe_callB (call_sortedL hr9) (by rfl) T.z_sorted (by decide +kernel) (pa_cons (pe_lc (own := [("_law_one", 1), ("_law_other", 2), ("_law_place", 3)]) (g := gTup K 3 (gCons (gName 1) (gCons (gName 2) (gCons (gName 3) gNil)))) (tt := tYes)
      (te := tTup (tCons (tCall spSmall [] E0 (tCons (tVar 1) tNil)) (tCons (tCall spSmall [] E0 (tCons (tVar 2) tNil)) tNil))) rfl c_l_pairs_only.nd (pi_list (pv 0)) (blkOk_by (N := n_l_pairs_only) (sc := defScope s_l_pairs_only) (by decide +kernel))
      (fun _ _ _ _ _ => pg_tup rfl (pgs_cons (pg_name (i := 1) c_l_pairs_only.nd rfl (Or.inl rfl)) (pgs_cons (pg_name (i := 2) c_l_pairs_only.nd rfl (Or.inl rfl)) (pgs_cons (pg_name (i := 3) c_l_pairs_only.nd rfl (Or.inl rfl)) pgs_nil)))) (fun _ _ _ _ _ => pts_nil)
      (fun _ _ _ _ _ => pe_tup (pa_cons (pe_call (ok_small T) (by exact hr) rfl T.l_small.g T.l_small.F.kp T.l_small.b .nil pass0 (pa_cons (pv 1) pa_nil)) (pa_cons (pe_call (ok_small T) (by exact hr) rfl T.l_small.g T.l_small.F.kp T.l_small.b .nil pass0 (pa_cons (pv 2) pa_nil)) pa_nil)))) pa_nil))), ?_⟩
    refine s_retP (evn_sortL (EvN.any (evn_is (evn_lcY (e := trD) (as := ms) (evl_var rfl hl) (by omega) (fun m => pairD (smallP m.1, smallP m.2.1)) (fun v m H1 hm e1 rv => ?_) (fun _ _ _ _ _ => g_mono_three)) (by rw [List.map_map]; rfl))) (sortOk_pair _) (by rw [List.length_map, List.length_map]; omega)) k
    have hm' := hlen m hm
    have sm : ∀ (i : Nat) (x : V) (σ' : L2.St) (p : Path) (H2 : Hp), σ'[i]? = some (some x) → Rp H2 x (pk p) → p.length ≤ 50 → EvD (tCall spSmall [] E0 (tCons (tVar i) tNil)) σ' H2 (pk (smallP p)) := fun i x σ' p H2 hx rx hp =>
      evp_call (as := [.d (pk p)]) (eas_d (evd_var hx rx) eas_nil) fun H3 vs e3 ha Q' q => by
        obtain ⟨_, rfl, a1⟩ := one_arg ha
        exact ⟨_, p, rfl, a1, hp, q⟩
    exact g_three rv fun x y z rx ry rz => ⟨Ex.refl _, rfl, evd_tup (eds_cons (sm 1 x _ m.1 _ rfl rx hm'.1) (eds_cons (sm 2 y _ m.2.1 _ rfl ry hm'.2) eds_nil)) (by simp)⟩
theorem ok_turned (T : Txt K mg) : FnOk P w K mg base CX0 1 T.l_turned.f T.l_turned.fd ["_law_pairs"] spTurned := by
  refine T.l_turned.F.ok c_l_turned (fun vs H Q E h => ?_) (fun cdv A outer sh H vs Q E hr h => ?_)
  · obtain ⟨_, _, rfl, _⟩ := h
    rfl
  · obtain ⟨a, ms, rfl, hl, hz, k⟩ := h
    have hr9 := room9 hr
    refine ⟨_, pss_one (ps_ret (pe_callB (call_sortedL hr9) (by rfl) T.z_sorted (by decide +kernel) (pa_cons (pe_lc (own := [("_law_one", 1), ("_law_other", 2)]) (g := gTup K 2 (gCons (gName 1) (gCons (gName 2) gNil))) (tt := tYes)
      (te := tTup (tCons (tCB rMinD (tCons (tVar 1) (tCons (tVar 2) tNil))) (tCons (tCB rMaxD (tCons (tVar 1) (tCons (tVar 2) tNil))) tNil))) rfl c_l_turned.nd (pi_list (pv 0)) (blkOk_by (N := n_l_turned) (sc := defScope s_l_turned) (by decide +kernel))
      (fun _ _ _ _ _ => pg_tup rfl (pgs_cons (pg_name (i := 1) c_l_turned.nd rfl (Or.inl rfl)) (pgs_cons (pg_name (i := 2) c_l_turned.nd rfl (Or.inl rfl)) pgs_nil))) (fun _ _ _ _ _ => pts_nil)
      (fun _ _ _ _ _ => pe_tup (pa_cons (pe_callB (call_minD rfl (by exact hr9)) (by rfl) T.z_min (by decide +kernel) (pa_cons (pv 1) (pa_cons (pv 2) pa_nil))) (pa_cons (pe_callB (call_maxD rfl (by exact hr9)) (by rfl) T.z_max (by decide +kernel) (pa_cons (pv 1) (pa_cons (pv 2) pa_nil))) pa_nil)))) pa_nil))), ?_⟩
    refine s_retP (evn_sortL (EvN.any (evn_is (evn_lcY (e := pairD) (as := ms) (evl_var rfl hl) (by omega) (fun m => pairD (minP m.1 m.2, maxP m.1 m.2)) (fun v m H1 hm e1 rv => ?_) (fun _ _ _ _ _ => g_mono_two)) (by rw [List.map_map]; rfl))) (sortOk_pair _) (by rw [List.length_map, List.length_map]; omega)) k
    exact g_two rv fun x y rx ry => ⟨Ex.refl _, rfl, evd_tup (eds_cons (evd_min (evd_var rfl rx) (evd_var rfl ry)) (eds_cons (evd_max (evd_var rfl rx) (evd_var rfl ry)) eds_nil)) (by simp)⟩
end
end R
/-! W27: the first two halls told alike -/
namespace R
open PySem L2 Evl
theorem evp_two {σ : L2.St} {H : Hp} {sp : Sp} {E : XK} {i j : Nat} {a b : Addr} {Pz : V → Hp → Prop} (h1 : σ[i]? = some (some (.ref a))) (h2 : σ[j]? = some (some (.ref b))) (hs : ∀ H1, Ex H H1 → ∀ Q : VK, (∀ v H2, Ex H1 H2 → Pz v H2 → Q v H2) → sp [.ref a, .ref b] H1 Q E) : EvP (tCall sp [] E (tCons (tVar i) (tCons (tVar j) tNil))) σ H Pz :=
  evp_call (as := [.v (.ref a), .v (.ref b)]) (eas_v (ev_var h1) (eas_v (ev_var h2) eas_nil)) fun H1 vs e1 ha Q q => by
    obtain ⟨_, _, rfl, rfl, rfl⟩ := two_args ha
    exact hs H1 e1 Q q
section
variable {P : Program} {w : World} {K : PySem.W.Frag} {mg : Str → Option Value} {base : Heap}
theorem ok_alike_told (T : Txt K mg) : FnOk P w K mg base CX0 13 T.l_alike_told.f T.l_alike_told.fd ["_law_rows_here", "_law_wishes"] spAT := by
  refine T.l_alike_told.F.ok c_l_alike_told (fun vs H Q E h => ?_) (fun cdv A outer sh H vs Q E hr h => ?_)
  · obtain ⟨_, _, _, _, _, _, _, rfl, _⟩ := h
    rfl
  · obtain ⟨Ra, Wa, ks, mk, wk, wf, n, rfl, hR, hW, A0, k⟩ := h
    have hr9 := room9 hr
    have nd := c_l_alike_told.nd
    refine ⟨_, pss_cons (ps_set (i := 2) nd rfl (Or.inl rfl) (pe_make T.mHi (ok_Hi T) (hr.mono (by decide)) rfl T.gH T.bHi .nil pass0 (pa_cons (pv 0) (pa_cons pe_bl pa_nil))))
      (pss_cons (ps_set (i := 3) nd rfl (Or.inl rfl) (pe_make T.mHi (ok_Hi T) (hr.mono (by decide)) rfl T.gH T.bHi .nil pass0 (pa_cons (pv 0) (pa_cons pe_bl pa_nil))))
      (pss_cons (ps_if (PW.pt (pw_or (pt_cmpR (op_neD hr.units) (pe_call (ok_meetings T) (hr.mono (by decide)) rfl T.meetings.g T.meetings.F.kp T.meetings.b .nil pass0 (pa_cons (pv 2) (pa_cons (pv 1) pa_nil))) (pe_lst pa_nil) (nomark _)) (pw_or1 (pt_cmpR (op_neD hr.units) (pe_call (ok_meetings T) (hr.mono (by decide)) rfl T.meetings.g T.meetings.F.kp T.meetings.b .nil pass0 (pa_cons (pv 3) (pa_cons (pv 1) pa_nil))) (pe_lst pa_nil) (nomark _))))) (pss_one (ps_ret pe_bl)) pss_nil)
      (pss_cons (ps_if (pt_cmpR (op_neD hr.units) (pe_call (ok_goal T) (hr.mono (by decide)) rfl T.goal.g T.goal.F.kp T.goal.b .nil pass0 (pa_cons (pv 2) (pa_cons (pv 1) pa_nil))) (pe_call (ok_goal T) (hr.mono (by decide)) rfl T.goal.g T.goal.F.kp T.goal.b .nil pass0 (pa_cons (pv 3) (pa_cons (pv 1) pa_nil))) (nomark _)) (pss_one (ps_ret pe_bl)) pss_nil)
      (pss_cons (ps_if (PW.pt (pw_or (pt_cmpR (op_neD hr.units) (pe_call (ok_rings T) (hr.mono (by decide)) rfl T.rings.g T.rings.F.kp T.rings.b .nil pass0 (pa_cons (pv 2) (pa_cons (pv 1) pa_nil))) (pe_call (ok_rings T) (hr.mono (by decide)) rfl T.rings.g T.rings.F.kp T.rings.b .nil pass0 (pa_cons (pv 3) (pa_cons (pv 1) pa_nil))) (nomark _))
        (pw_or1 (pt_cmpR (op_neD hr.units) (pe_call (ok_chains T) (hr.mono (by decide)) rfl T.chains.g T.chains.F.kp T.chains.b .nil pass0 (pa_cons (pv 2) (pa_cons (pv 1) pa_nil))) (pe_call (ok_chains T) (hr.mono (by decide)) rfl T.chains.g T.chains.F.kp T.chains.b .nil pass0 (pa_cons (pv 3) (pa_cons (pv 1) pa_nil))) (nomark _))))) (pss_one (ps_ret pe_bl)) pss_nil)
      (pss_cons (ps_set (i := 4) nd rfl (Or.inl rfl) (pe_call (ok_row_for T) hr rfl T.row_for.g T.row_for.F.kp T.row_for.b .nil pass0 (pa_cons (pv 3) (pa_cons (pv 1) pa_nil))))
      (pss_cons (ps_if (pt_cmpR op_ne (pe_callB call_len_seq (by rfl) T.z_len PySem.boot_len (pa_cons (pe_call (ok_row_for T) hr rfl T.row_for.g T.row_for.F.kp T.row_for.b .nil pass0 (pa_cons (pv 2) (pa_cons (pv 1) pa_nil))) pa_nil)) (pe_callB call_len_seq (by rfl) T.z_len PySem.boot_len (pa_cons (pv 4) pa_nil)) (nomark _)) (pss_one (ps_ret pe_bl)) pss_nil)
      (pss_one (ps_ret (pe_cmpR op_is_bl (pe_call (ok_does T) (hr.mono (by decide)) rfl T.does.g T.does.F.kp T.does.b .nil pass0 (pa_cons (pv 2) (pa_cons (pv 1) (pa_cons (pv 4) pa_nil)))) pe_bl (nomark _)))))))))), ?_⟩
    have make : ∀ (b : Bool) (σ : L2.St) (H1 : Hp), σ[0]? = some (some (.ref Ra)) → LstD H1 Ra (rowsD ks mk) → EvP (tMake T.CH (spHi w T.CH) [] E0 (tCons (tVar 0) (tCons (tC (.bl b)) tNil))) σ H1 (fun v H' => ∃ x, v = .ref x ∧ HallAt w T.CH H' x b ks mk) := fun b σ H1 h0 hL =>
      evp_make (as := [.v (.ref Ra), .v (.bl b)]) (eas_v (ev_var h0) (eas_v ev_c eas_nil)) fun H2 Hn vs x dx e2 ha nx en hx Q' q => by
        obtain ⟨_, _, rfl, rfl, rfl⟩ := two_args ha
        exact ⟨x, Ra, b, ks, mk, dx, rfl, hx, hL.ex (e2.trans en), A0.wf0 b, fun H' x' hC => q H' x' ⟨x, rfl, hC⟩⟩
    refine q_asgP (make false _ H rfl hR) fun v1 H1 e1 ⟨hs, ev, hS⟩ => ?_
    subst ev
    refine q_asgP (make true _ H1 rfl (hR.ex e1)) fun v2 H2 e2 ⟨hb, ev, hB⟩ => ?_
    subst ev
    have e12 := e1.trans e2
    have hS2 := hS.ex e2
    have hW2 := hW.ex e12
    have mee : ∀ (b : Bool) (i : Nat) (h : Addr) (σ : L2.St) (H3 : Hp), σ[i]? = some (some (.ref h)) → σ[1]? = some (some (.ref Wa)) → HallAt w T.CH H3 h b ks mk → LstD H3 Wa (wD wk wf) → EvLs (tCall (spMeet w T.CH) [] E0 (tCons (tVar i) (tCons (tVar 1) tNil))) σ H3 [] := fun b i h σ H3 h1 h2 hH hW' =>
      evp_two h1 h2 fun H4 e4 Q' q => ⟨h, Wa, b, ks, mk, wk, wf, rfl, hH.ex e4, hW'.ex e4, A0.g, fun v H5 e5 ⟨p, h1, _, h2⟩ => q v H5 e5 ⟨p, h1, by rw [meet_nil (A0.no b)] at h2; exact h2⟩⟩
    refine q_when (et_or (et_test (ev_ne_nil (mee false 2 hs _ H2 rfl rfl hS2 hW2) (by simp [NestedKey.depthAll]))) fun _ => et_test (ev_ne_nil (mee true 3 hb _ H2 rfl rfl hB hW2) (by simp [NestedKey.depthAll]))) (fun hb => by simp at hb) (fun _ H3 e3 => ?_)
    have hS3 := hS2.ex e3
    have hB3 := hB.ex e3
    have hW3 := hW2.ex e3
    have goa : ∀ (b : Bool) (i : Nat) (h : Addr) (σ : L2.St) (H3 : Hp), σ[i]? = some (some (.ref h)) → σ[1]? = some (some (.ref Wa)) → HallAt w T.CH H3 h b ks mk → LstD H3 Wa (wD wk wf) → EvLs (tCall (spGoal w T.CH) [] E0 (tCons (tVar i) (tCons (tVar 1) tNil))) σ H3 (goalD ks mk wk wf) := fun b i h σ H3 h1 h2 hH hW' =>
      evp_two h1 h2 fun H4 e4 Q' q => ⟨h, Wa, b, ks, mk, wk, wf, rfl, hH.ex e4, hW'.ex e4, A0.g, A0.no b, A0.inj, fun v H5 e5 ⟨p, h1, _, h2⟩ => q v H5 e5 ⟨p, h1, h2⟩⟩
    have gdep : NestedKey.depthAll (goalD ks mk wk wf) ≤ 8 := depthAll_le.mpr fun d hd => by
      obtain ⟨p, hp, rfl⟩ := List.mem_map.mp hd
      have := List.mem_mergeSort.mp hp
      obtain ⟨q, _, rfl⟩ := List.mem_map.mp this
      unfold pr
      rw [NestedKey.depth, NestedKey.depthAll, NestedKey.depthAll, NestedKey.depthAll, dep_pk, dep_mk]
      decide
    refine q_when (et_test (ev_neL (goa false 2 hs _ H3 rfl rfl hS3 hW3) (goa true 3 hb _ H3 rfl rfl hB3 hW3) gdep gdep)) (fun hb => by simp at hb) (fun _ H4 e4 => ?_)
    have hS4 := hS3.ex e4
    have hB4 := hB3.ex e4
    have hW4 := hW3.ex e4
    have rin : ∀ (out : List Path → (Path → Option Path) → Nat → List (List Path)) (b : Bool) (i : Nat) (h : Addr) (σ : L2.St) (H3 : Hp) (dss : List (List D)), dss = llD (out (movers wk wf) (ahW b ks wk wf) n) → σ[i]? = some (some (.ref h)) → σ[1]? = some (some (.ref Wa)) → HallAt w T.CH H3 h b ks mk → LstD H3 Wa (wD wk wf) → EvP (tCall (spRings w T.CH out) [] E0 (tCons (tVar i) (tCons (tVar 1) tNil))) σ H3 (IsLL dss) := fun out b i h σ H3 dss hd h1 h2 hH hW' =>
      evp_two h1 h2 fun H4 e4 Q' q => ⟨h, Wa, b, ks, mk, wk, wf, n, rfl, hH.ex e4, hW'.ex e4, A0.g, A0.no b, A0.ah b, fun v H5 e5 ⟨p, h1, _, h2⟩ => q v H5 e5 ⟨H4, p, h1, hd ▸ h2⟩⟩
    refine q_when (et_or (et_test (ev_neLL (dss := llD (ringsM (movers wk wf) (ahW true ks wk wf) n)) (rin ringsM false 2 hs _ H4 _ (by rw [A0.ri]) rfl rfl hS4 hW4) (rin ringsM true 3 hb _ H4 _ rfl rfl rfl hB4 hW4) (dep_llD _))) fun _ => et_test (ev_neLL (dss := llD (chainsM (movers wk wf) (ahW true ks wk wf) n)) (rin chainsM false 2 hs _ H4 _ (by rw [A0.ch]) rfl rfl hS4 hW4) (rin chainsM true 3 hb _ H4 _ rfl rfl rfl hB4 hW4) (dep_llD _))) (fun hb => by simp at hb) (fun _ H5 e5 => ?_)
    have hS5 := hS4.ex e5
    have hB5 := hB4.ex e5
    have hW5 := hW4.ex e5
    have row : ∀ (b : Bool) (i : Nat) (h : Addr) (σ : L2.St) (H3 : Hp), σ[i]? = some (some (.ref h)) → σ[1]? = some (some (.ref Wa)) → HallAt w T.CH H3 h b ks mk → LstD H3 Wa (wD wk wf) → EvP (tCall (spRowFor w T.CH) [] E0 (tCons (tVar i) (tCons (tVar 1) tNil))) σ H3 (fun v H' => ∃ ms p, RowOf b ks wk wf n ms ∧ v = .ref p ∧ LstD H' p (ms.map mvD)) := fun b i h σ H3 h1 h2 hH hW' =>
      evp_two h1 h2 fun H4 e4 Q' q => ⟨h, Wa, b, ks, mk, wk, wf, n, rfl, hH.ex e4, hW'.ex e4, A0.g, A0.no b, A0.ah b, fun v H5 e5 ⟨ms, hm, p, h1, _, h2⟩ => q v H5 e5 ⟨ms, p, hm, h1, h2⟩⟩
    refine q_asgP (row true 3 hb _ H5 rfl rfl hB5 hW5) fun v4 H6 e6 ⟨ms, Rw, hms, ev, hRw⟩ => ?_
    subst ev
    have hS6 := hS5.ex e6
    have hW6 := hW5.ex e6
    refine q_when (b := false) (et_test (ev_op (x := .int ms.length) (y := .int ms.length) ?_ (ev_is (ev_lenL (evl_var rfl hRw)) (by rw [List.length_map])) (rv_ne rfl |> fun h => by rw [show (!decide (V.int (ms.length : Int) = V.int (ms.length : Int))) = false by simp] at h; exact h))) (fun hb => nomatch hb) (fun _ H7 e7 => ?_)
    · intro H7 e7 Q' q
      refine row false 2 hs _ H6 rfl rfl hS6 hW6 H7 e7 _ fun v H8 e8 ⟨ms', p, hm', ev, hp⟩ => ?_
      subst ev
      obtain ⟨xs, h1, h2⟩ := hp
      refine ⟨p, xs, rfl, .inl (SqL.of h1), ?_⟩
      have : xs.length = ms.length := by rw [h2.length, List.length_map, A0.len ms ms' hms hm']
      rw [this]
      exact q H8 e8
    have hS7 := hS6.ex e7
    have hW7 := hW6.ex e7
    have hRw7 := hRw.ex e7
    refine s_ret (ev_op (x := .bl true) (y := .bl true) (ev_of (evp_call (as := [.v (.ref hs), .v (.ref Wa), .v (.ref Rw)]) (P := fun v _ => v = V.bl true) (eas_v (ev_var rfl) (eas_v (ev_var rfl) (eas_v (ev_var rfl) eas_nil))) fun H8 vs e8 ha Q' q => ?_)) ev_c fun H8 e8 Q' q => ⟨true, true, rfl, rfl, q H8 (Ex.refl _)⟩) fun H8 e8 => k _ (((((e12.trans e3).trans e4).trans e5).trans (e6.trans e7)).trans e8)
    obtain ⟨_, _, _, rfl, rfl, rfl, rfl⟩ := three_args ha
    obtain ⟨r1, r2⟩ := A0.row ms hms
    exact ⟨hs, Wa, Rw, false, ks, mk, wk, wf, ms, rfl, hS7.ex e8, hW7.ex e8, hRw7.ex e8, A0.g, A0.no false, A0.wf1, r1, r2, fun H9 e9 => q _ H9 e9 rfl⟩
end
end R
/-! W28: the law, walked -/
namespace R
open PySem L2 Evl
/-! ### what is to be shown plainly (of rows and of drawn wishes) -/
def smallMk (ks : List Path) (mk : Path → Mark) (q : Path) : Mark := match ks.find? (fun p => decide (smallP p = q)) with
  | some p => mk p
  | none => none
def lowW (wf : Path → Path) (p : Path) : Path := (wf p).dropLast ++ [low (lst (wf p))]
def asF (prs : List (Path × Path)) (p : Path) : Path := match prs.find? (fun m => decide (m.1 = p)) with
  | some m => m.2
  | none => p
def leT (a b : Meet) : Bool := leD (trD a) (trD b)
def lePr (a b : Path × Path) : Bool := leD (pairD a) (pairD b)
def foundS (b : Bool) (wk : List Path) (wf : Path → Path) (ks : List Path) : List Meet := (foundM b (plc wk wf) (sortP (sortP ks))).mergeSort leT
def pairsO (ms : List Meet) : List (Path × Path) := (ms.map fun m => (smallP m.1, smallP m.2.1)).mergeSort lePr
def turnO (ms : List (Path × Path)) : List (Path × Path) := (ms.map fun m => (minP m.1 m.2, maxP m.1 m.2)).mergeSort lePr
/-- wishes of the third part: each thing at most once, in its drawer, names small -/
structure ThirdOk (ks : List Path) (prs : List (Path × Path)) : Prop where
  sub : (prs.map (·.1)).Sublist ks
  to : ∀ m ∈ prs, ∃ n, okS n = true ∧ m.2 = m.1.dropLast ++ [low n]
structure Plain : Prop where
  small : ∀ ks mk, RowsOk true ks mk → RowsOk true (ks.map smallP) (smallMk ks mk) ∧ ∀ p ∈ ks, smallMk ks mk (smallP p) = mk p
  alike : ∀ ks mk wk wk' wf, RowsOk true ks mk → WishOk (ks.map smallP) (smallMk ks mk) wk wf → (∀ p ∈ wk, ∀ n ∈ wf p, okS n = true) → wk'.Perm wk → ∃ n, AlikeT (ks.map smallP) (smallMk ks mk) wk' (lowW wf) n
  third : ∀ ks mk prs, RowsOk true ks mk → ThirdOk ks prs →
    WfH true ks mk ∧ WfH false (ks.map smallP) (smallMk ks mk) ∧ GoodW ks mk (prs.map (·.1)) (asF prs) ∧ wD (prs.map (·.1)) (asF prs) = prs.map pairD ∧
    GoodW (ks.map smallP) (smallMk ks mk) (prs.map fun m => smallP m.1) (asF (prs.map fun m => (smallP m.1, smallP m.2))) ∧
    wD (prs.map fun m => smallP m.1) (asF (prs.map fun m => (smallP m.1, smallP m.2))) = (prs.map fun m => (smallP m.1, smallP m.2)).map pairD ∧
    turnO (pairsO (foundS true (prs.map (·.1)) (asF prs) ks)) = turnO (pairsO (foundS false (prs.map fun m => smallP m.1) (asF (prs.map fun m => (smallP m.1, smallP m.2))) (ks.map smallP)))
theorem sort_tr (ms : List Meet) : sortD (ms.map trD) = (ms.mergeSort leT).map trD := (List.map_mergeSort (f := trD) (r := leT) (s := leD) fun _ _ _ _ => rfl).symm
theorem sort_pair (ms : List (Path × Path)) : sortD (ms.map pairD) = (ms.mergeSort lePr).map pairD := (List.map_mergeSort (f := pairD) (r := lePr) (s := leD) fun _ _ _ _ => rfl).symm
section
variable {F L : Addr} {K : PySem.W.Frag} {σ : L2.St} {H : Hp} {ta te tl : TE} {N : Ends} {tz : TS} {g : TG} {tt : TT} {vs : List Nat} {Pz : V → Hp → Prop}
/-- a comprehension over a list that is drawn -/
theorem q_asgLcF {i : Nat} (f : FeedAt H F L) (h : EvF F L tl σ H Pz) (k : ∀ x H1, ExB F H H1 → FeedAt H1 F L → Pz x H1 → tSeq (tAsg (tLc (iList K (tC x)) g tt te vs) (gName i)) tz N σ H1) : tSeq (tAsg (tLc (iList K tl) g tt te vs) (gName i)) tz N σ H :=
  h H (ExB.refl _ _) f _ fun x H1 e1 f1 p => k x H1 e1 f1 p
/-- xs.append(what is drawn) -/
theorem s_appF {l : Addr} {ds : List D} {Pd : D → Prop} (f : FeedAt H F L) (hl : LstD H l ds) (n1 : l ≠ F) (ha : ∀ H1, Ev ta σ H1 (.ref l)) (h : EvF F L te σ H (fun v H' => ∃ d, Rp H' v d ∧ Pd d)) (hz : ds.length < 100000) (n2 : l ≠ L)
    (k : ∀ d H1, ExS l F H H1 → FeedAt H1 F L → Pd d → LstD H1 l (ds ++ [d]) → N.nx σ H1) : tDrop (tBM K "list" rAppend ta (tCons te tNil)) N σ H := ha H H (Ex.refl H) _ fun H1 e1 => by
  obtain ⟨xs, h1, h2⟩ := hl.ex e1
  refine ⟨Or.inl ⟨rfl, xs, sq_of h1⟩, h H1 (ExB.of e1) (f.ex e1) _ fun v H2 e2 f2 ⟨d, rd, pd⟩ => ?_⟩
  obtain ⟨ys, j1, j2⟩ := (hl.ex e1).exb e2 n1
  have eb : ExB l H2 (upd H2 l (.lst (ys ++ [v]))) := ExB.upd fun zs q => by rw [j1] at q; cases q
  refine ⟨l, ys, v, rfl, rfl, j1, sz_lt (by rw [j2.length]; exact hz), ?_⟩
  refine k d _ ((ExS.of e1).trans ((ExS.m e2).trans (ExS.s eb))) (f2.exb eb n1.symm n2.symm) pd ⟨_, upd_same, (j2.tk eb.2).append (.one (Rp.tk eb.2 rd))⟩
end
theorem evp_callP {P' : V → Hp → Prop} {sp : Sp} {E : XK} {Ps : List (V → Hp → Prop)} {ta : TA} {σ : L2.St} {H : Hp} (h : EvPs ta σ H Ps) (hs : ∀ H1 vs, Ex H H1 → PsOk H1 Ps vs → ∀ Q : VK, (∀ v H2, Ex H1 H2 → P' v H2 → Q v H2) → sp vs H1 Q E) : EvP (tCall sp [] E ta) σ H P' := fun H1 e1 Q q =>
  h H1 e1 _ fun vs H2 e2 p => by
    show sp (vs ++ []) H2 Q E
    rw [List.append_nil]
    exact hs H2 vs (e1.trans e2) p Q fun v H3 e3 => q v H3 (e2.trans e3)
theorem q_asgLstP {σ : L2.St} {H : Hp} {N : Ends} {tz : TS} {ta : TA} {Ps : List (V → Hp → Prop)} {i : Nat} (h : EvPs ta σ H Ps) (hl : Ps.length ≤ 1000) (k : ∀ a vs H1, Ex H H1 → H1 a = none → PsOk H1 Ps vs → tz N (σ.set i (some (.ref a))) (upd H1 a (.lst vs))) : tSeq (tAsg (tLst ta) (gName i)) tz N σ H :=
  h H (Ex.refl _) _ fun vs H1 e1 p => ⟨sz_of (by rw [p.length]; omega), fun a ha => k a vs H1 e1 ha p⟩
theorem mem_foundM {b : Bool} {pl : Path → Path} {ss : List Path} {m : Meet} (h : m ∈ foundM b pl ss) : m.1 ∈ ss ∧ m.2.1 ∈ ss := by
  obtain ⟨k, hk, hm⟩ := List.mem_flatMap.mp h
  obtain ⟨j, hj, hm⟩ := List.mem_flatMap.mp hm
  obtain ⟨o, ho, rfl⟩ := List.mem_map.mp hm
  have hlt := List.mem_range.mp hj
  refine ⟨?_, (List.mem_filter.mp (List.mem_of_mem_drop ho)).1⟩
  have : (grp b pl ss k).getD j [] ∈ grp b pl ss k := by
    rw [List.getD_eq_getElem?_getD, List.getElem?_eq_getElem hlt]
    exact List.getElem_mem hlt
  exact (List.mem_filter.mp this).1
theorem foundM_len {b : Bool} {pl : Path → Path} {ss : List Path} (h : ss.length ≤ 18) : (foundM b pl ss).length ≤ 6000 := by
  unfold foundM
  have h1 := gks_len b pl ss
  refine Nat.le_trans (flat_len (n := 324) fun k _ => ?_) (by omega)
  have h2 := grp_len b pl ss k
  have h3 : (grp b pl ss k).length ≤ 18 := by omega
  exact Nat.le_trans (pairs_len _ _ _) (Nat.mul_le_mul h3 h3)
theorem foundS_len {b : Bool} {wk ks : List Path} {wf : Path → Path} (h : ks.length ≤ 18) : (foundS b wk wf ks).length ≤ 6000 := by
  unfold foundS
  rw [List.length_mergeSort]
  exact foundM_len (by rw [sortP_len, sortP_len]; exact h)
theorem pairsO_len (ms : List Meet) : (pairsO ms).length = ms.length := by
  unfold pairsO
  rw [List.length_mergeSort, List.length_map]
theorem evf_opF {F L : Addr} {σ : L2.St} {H : Hp} {ta tb : TE} {r : R2} {P P2 S : V → Hp → Prop} (ha : EvF F L ta σ H P) (hP : UpF F P) (hb : EvF F L tb σ H P2) (hr : ∀ x y H1, ExB F H H1 → FeedAt H1 F L → P x H1 → P2 y H1 → ∀ Q : VK, (∀ z H2, Ex H1 H2 → S z H2 → Q z H2) → r x y H1 Q) : EvF F L (tOp r ta tb) σ H S := fun H1 e1 f1 Q q =>
  ha H1 e1 f1 _ fun x H2 e2 f2 p => hb H2 (e1.trans e2) f2 _ fun y H3 e3 f3 p' => hr x y H3 ((e1.trans e2).trans e3) f3 (hP x _ _ e3 p) p' Q fun z H4 e4 s => q z H4 ((e2.trans e3).trans (ExB.of e4)) (f3.ex e4) s
def DT (Pd : D → Prop) : V → Hp → Prop := fun v H => ∃ d, Rp H v d ∧ Pd d
section
variable {F L : Addr} {K : PySem.W.Frag} {σ : L2.St} {H : Hp} {ta tb te : TE} {P1 P2 : D → Prop}
theorem upf_dt (Pd : D → Prop) : UpF F (DT Pd) := fun _ _ _ e ⟨d, h1, h2⟩ => ⟨d, Rp.tk e.2 h1, h2⟩
theorem evf_case (h : EvF F L te σ H (DT fun d => ∃ n, d = .text n ∧ okS n = true)) : EvF F L (tM0 (rCase Txt.lower) te) σ H (DT fun d => ∃ n, okS n = true ∧ d = .text (low n)) := fun H1 e1 f1 Q q =>
  h H1 e1 f1 _ fun v H2 e2 f2 ⟨d, r, n, hd, hn⟩ => by
    subst hd
    cases (show Rp H2 v (.text n) from r) with
    | str _ ho => exact ⟨⟨n, rfl⟩, n, rfl, rfl, by have := okS_len hn; omega, q _ H2 e2 f2 ⟨_, .str _ (okS_low hn), n, hn, rfl⟩⟩
theorem evf_tup1 (h : EvF F L te σ H (DT P1)) : EvF F L (tTup (tCons te tNil)) σ H (DT fun d => ∃ e, P1 e ∧ d = .tup [e]) := fun H1 e1 f1 Q q =>
  h H1 e1 f1 _ fun v H2 e2 f2 ⟨d, r, hd⟩ => ⟨by show 1 ≤ sizeLine; decide, fun a ha => q _ _ (e2.ex (Ex.new ha)) (f2.ex (Ex.new ha)) ⟨_, .tup upd_same (.one (r.ex (Ex.new ha))), d, hd, rfl⟩⟩
theorem evf_tup2 (h : EvF F L ta σ H (DT P1)) (h' : EvF F L tb σ H (DT P2)) : EvF F L (tTup (tCons ta (tCons tb tNil))) σ H (DT fun d => ∃ e e', P1 e ∧ P2 e' ∧ d = .tup [e, e']) := fun H1 e1 f1 Q q =>
  h H1 e1 f1 _ fun v H2 e2 f2 ⟨d, r, hd⟩ => h' H2 (e1.trans e2) f2 _ fun v' H3 e3 f3 ⟨d', r', hd'⟩ => ⟨by show 2 ≤ sizeLine; decide, fun a ha => q _ _ ((e2.trans e3).ex (Ex.new ha)) (f3.ex (Ex.new ha)) ⟨_, .tup upd_same (.cons ((r.tk e3.2).ex (Ex.new ha)) (.one (r'.ex (Ex.new ha)))), d, d', hd, hd', rfl⟩⟩
theorem evf_catP {q : Path} (hq : q.length ≤ 1000) (h : EvF F L ta σ H (IsD (pk q))) (h' : EvF F L tb σ H (DT fun d => ∃ e, (∃ n, okS n = true ∧ e = .text (low n)) ∧ d = .tup [e])) : EvF F L (tOp (rCatA K) ta tb) σ H (DT fun d => ∃ n, okS n = true ∧ d = pk (q ++ [low n])) :=
  evf_op h (upf_d _) h' fun x y H1 e1 px ⟨d, r, e, ⟨n, hn, he⟩, hd⟩ Q k => by
    subst hd
    subst he
    exact evd_catP (K := K) (σ := []) (q := [low n]) (evd_ev ev_c px) (evd_ev ev_c r) hq (by simp) H1 (Ex.refl _) Q fun v H2 e2 rv => k v H2 e2 ⟨_, rv, n, hn, rfl⟩
theorem evf_dt {d : D} (h : ∀ H1, ExB F H H1 → EvD te σ H1 d) : EvF F L te σ H (DT fun e => e = d) := evf_pure fun H1 e1 => (h H1 e1).imp fun _ _ _ r => ⟨d, r, rfl⟩
end
def spLaw (K : PySem.W.Frag) : Sp := fun vs H Q _ => ∃ (a : Addr) (ns : List Int), vs = [.ref a] ∧ SqL K H a (ns.map V.int) ∧ ns.length ≤ 63 ∧ ∀ H', Q (.bl true) H'
theorem rp_ints (H : Hp) : ∀ ns : List Int, RpAll H (ns.map V.int) (ns.map .num)
  | [] => .nil
  | n :: ns => .cons (.int n) (rp_ints H ns)
section
variable {P : Program} {w : World} {K : PySem.W.Frag} {mg : Str → Option Value} {base : Heap}
theorem ok_law (PL : Plain) (T : Txt K mg) {f : Addr} {fd : FuncData} (Fl : Fun K "law" "law" s_law f fd) : FnOk P w K mg base CX0 14 f fd ["_law_script"] (spLaw K) := by
  refine Fl.ok c_law (fun vs H Q E h => ?_) (fun cdv A outer sh H vs Q E hr h => ?_)
  · obtain ⟨_, _, rfl, _⟩ := h
    rfl
  · obtain ⟨a, ns, rfl, hS, hn, k⟩ := h
    have hr9 := room9 hr
    have nd := c_law.nd
    have hr1 : Room 1 _ := hr.mono (by decide)
    refine ⟨_, pss_cons (ps_set (i := 1) nd rfl (Or.inl rfl) (pe_lst (pa_cons (pe_callTy call_list_of (by rfl) T.z_list (by decide +kernel) (pa_cons (pv 0) pa_nil)) (pa_cons pe_int (pa_cons pe_int pa_nil)))))
      (pss_cons (ps_for PassesOwn.never rfl (pi_range1 rfl T.z_range (pa_cons (pe_callB (call_max2 rfl) (by rfl) T.z_max (by decide +kernel) (pa_cons pe_int (pa_cons (pe_callB (call_min2 rfl) (by rfl) T.z_min (by decide +kernel) (pa_cons pe_int (pa_cons (pe_callB call_len_seq (by rfl) T.z_len PySem.boot_len (pa_cons (pv 0) pa_nil)) pa_nil))) pa_nil))) pa_nil)) (pg_name (i := 2) nd rfl (Or.inl rfl))
        (pss_cons (ps_set (i := 3) nd rfl (Or.inl rfl) (pe_call (ok_lrows T) (hr.mono (by decide)) rfl T.l_rows.g T.l_rows.F.kp T.l_rows.b .nil pass0 (pa_cons (pv 1) (pa_cons pe_bl (pa_cons pe_int pa_nil)))))
        (pss_cons (ps_setLc (i := 6) (own := [("_law_path", 4), ("_law_mark", 5)]) (g := gTup K 2 (gCons (gName 4) (gCons (gName 5) gNil))) (tt := tYes) (te := tTup (tCons (tCall spSmall [] E0 (tCons (tVar 4) tNil)) (tCons (tVar 5) tNil))) rfl nd rfl rfl (sw_true rfl rfl rfl (by decide +kernel))
            (pi_list (pv 3)) (blkOk_by (N := n_law) (sc := defScope s_law) (by decide +kernel)) (fun _ _ _ _ _ => pg_tup rfl (pgs_cons (pg_name (i := 4) nd rfl (Or.inl rfl)) (pgs_cons (pg_name (i := 5) nd rfl (Or.inl rfl)) pgs_nil))) (fun _ _ _ _ _ => pts_nil)
            (fun _ _ _ _ _ => pe_tup (pa_cons (pe_call (ok_small T) (by exact hr1) rfl T.l_small.g T.l_small.F.kp T.l_small.b .nil pass0 (pa_cons (pv 4) pa_nil)) (pa_cons (pv 5) pa_nil))))
        (pss_cons (ps_set (i := 7) nd rfl (Or.inl rfl) (pe_call (ok_good T) (hr.mono (by decide)) rfl T.l_good_wishes.g T.l_good_wishes.F.kp T.l_good_wishes.b .nil pass0 (pa_cons (pv 1) (pa_cons (pv 6) (pa_cons pe_bl (pa_cons pe_int pa_nil))))))
        (pss_cons (ps_setLc (i := 8) (own := [("_law_path", 4), ("_law_place", 13)]) (g := gTup K 2 (gCons (gName 4) (gCons (gName 13) gNil))) (tt := tYes) (te := tTup (tCons (tVar 4) (tCons (tOp (rCatA K) (tSl (rSlA K) (tVar 13) tNoPart (tPart (tUn (rU fun i => .int (-i)) (tC (.int 1))))) (tTup (tCons (tM0 (rCase Txt.lower) (tOp (rIxT K) (tVar 13) (tUn (rU fun i => .int (-i)) (tC (.int 1))))) tNil))) tNil))) rfl nd rfl rfl (sw_true rfl rfl rfl (by decide +kernel))
            (pi_list (pe_call (ok_in_order T) (hr.mono (by decide)) rfl T.l_in_order.g T.l_in_order.F.kp T.l_in_order.b .nil pass0 (pa_cons (pv 1) (pa_cons (pv 7) pa_nil)))) (blkOk_by (N := n_law) (sc := defScope s_law) (by decide +kernel)) (fun _ _ _ _ _ => pg_tup rfl (pgs_cons (pg_name (i := 4) nd rfl (Or.inl rfl)) (pgs_cons (pg_name (i := 13) nd rfl (Or.inl rfl)) pgs_nil))) (fun _ _ _ _ _ => pts_nil)
            (fun _ _ _ _ _ => pe_tup (pa_cons (pv 4) (pa_cons (pe_op op_catA (pe_slice sl_tupA (pv 13) po_none (po_some (pe_un un_neg pe_int))) (pe_tup (pa_cons (pe_lower (pe_ix ix_tup (pv 13) (pe_un un_neg pe_int) (fun _ _ => rfl))) pa_nil))) pa_nil))))
        (pss_cons (ps_if (pt_not (pt_val (pe_call (ok_alike_told T) hr rfl T.l_alike_told.g T.l_alike_told.F.kp T.l_alike_told.b .nil pass0 (pa_cons (pv 6) (pa_cons (pv 8) pa_nil))))) (pss_one (ps_ret pe_bl)) pss_nil)
        (pss_cons (ps_set (i := 9) nd rfl (Or.inl rfl) (pe_lst pa_nil))
        (pss_cons (ps_for PassesOwn.never rfl (pi_list (pv 3)) (pg_tup rfl (pgs_cons (pg_name (i := 4) nd rfl (Or.inr rfl)) (pgs_cons (pg_name (i := 5) nd rfl (Or.inl rfl)) pgs_nil)))
          (pss_cons (ps_set (i := 11) nd rfl (Or.inl rfl) (pe_op op_cat (pe_lc (own := [("_law_one", 14), ("_law_other", 10)]) (g := gTup K 2 (gCons (gName 14) (gCons (gName 10) gNil))) (tt := tTest (tOp (rEqD K) (tSl (rSlA K) (tVar 14) tNoPart (tPart (tUn (rU fun i => .int (-i)) (tC (.int 1))))) (tSl (rSlA K) (tVar 4) tNoPart (tPart (tUn (rU fun i => .int (-i)) (tC (.int 1))))))) (te := tOp (rIxT K) (tVar 14) (tUn (rU fun i => .int (-i)) (tC (.int 1)))) rfl nd
              (pi_list (pv 3)) (blkOk_by (N := n_law) (sc := defScope s_law) (by decide +kernel)) (fun _ _ _ _ _ => pg_tup rfl (pgs_cons (pg_name (i := 14) nd rfl (Or.inl rfl)) (pgs_cons (pg_name (i := 10) nd rfl (Or.inl rfl)) pgs_nil)))
              (fun _ _ _ _ _ => pts_one (pt_cmpR (op_eqD (by exact hr.units)) (pe_slice sl_tupA (pv 14) po_none (po_some (pe_un un_neg pe_int))) (pe_slice sl_tupA (pv 4) po_none (po_some (pe_un un_neg pe_int))) (nomark _))) (fun _ _ _ _ _ => pe_ix ix_tup (pv 14) (pe_un un_neg pe_int) (fun _ _ => rfl)))
              (pe_lst (pa_cons (pe_call (ok_a_name T) (hr.mono (by decide)) rfl T.l_a_name.g T.l_a_name.F.kp T.l_a_name.b .nil pass0 (pa_cons (pv 1) pa_nil)) pa_nil))))
          (pss_one (ps_if (pt_cmpR op_eq (pe_call (ok_draw T) hr1 rfl T.l_draw.g T.l_draw.F.kp T.l_draw.b .nil pass0 (pa_cons (pv 1) (pa_cons pe_int pa_nil))) pe_int (nomark _))
            (pss_one (ps_expr (pe_bm PySem.F.plainAttrs_list PySem.F.slot_list_append PySem.F.type_list_append mt_append (pv 9) (pa_cons (pe_tup (pa_cons (pv 4) (pa_cons (pe_op op_catA (pe_slice sl_tupA (pv 4) po_none (po_some (pe_un un_neg pe_int)))
              (pe_tup (pa_cons (pe_lower (pe_ix ix_list (pv 11) (pe_call (ok_draw T) hr1 rfl T.l_draw.g T.l_draw.F.kp T.l_draw.b .nil pass0 (pa_cons (pv 1) (pa_cons (pe_callB call_len_seq (by rfl) T.z_len PySem.boot_len (pa_cons (pv 11) pa_nil)) pa_nil))) (fun _ _ => rfl))) pa_nil))) pa_nil))) pa_nil)))) pss_nil))))
        (pss_cons (ps_set (i := 12) nd rfl (Or.inl rfl) (pe_call (ok_pairs T) (hr.mono (by decide)) rfl T.l_pairs_only.g T.l_pairs_only.F.kp T.l_pairs_only.b .nil pass0 (pa_cons (pe_call (ok_meetings T) (hr.mono (by decide)) rfl T.meetings.g T.meetings.F.kp T.meetings.b .nil pass0 (pa_cons (pe_make T.mHi (ok_Hi T) (hr.mono (by decide)) rfl T.gH T.bHi .nil pass0 (pa_cons (pv 3) (pa_cons pe_bl pa_nil))) (pa_cons (pv 9) pa_nil))) pa_nil)))
        (pss_cons (ps_setLc (i := 8) (own := [("_law_one", 14), ("_law_there", 15)]) (g := gTup K 2 (gCons (gName 14) (gCons (gName 15) gNil))) (tt := tYes) (te := tTup (tCons (tCall spSmall [] E0 (tCons (tVar 14) tNil)) (tCons (tCall spSmall [] E0 (tCons (tVar 15) tNil)) tNil))) rfl nd rfl rfl (sw_true rfl rfl rfl (by decide +kernel))
            (pi_list (pv 9)) (blkOk_by (N := n_law) (sc := defScope s_law) (by decide +kernel)) (fun _ _ _ _ _ => pg_tup rfl (pgs_cons (pg_name (i := 14) nd rfl (Or.inl rfl)) (pgs_cons (pg_name (i := 15) nd rfl (Or.inl rfl)) pgs_nil))) (fun _ _ _ _ _ => pts_nil)
            (fun _ _ _ _ _ => pe_tup (pa_cons (pe_call (ok_small T) (by exact hr1) rfl T.l_small.g T.l_small.F.kp T.l_small.b .nil pass0 (pa_cons (pv 14) pa_nil)) (pa_cons (pe_call (ok_small T) (by exact hr1) rfl T.l_small.g T.l_small.F.kp T.l_small.b .nil pass0 (pa_cons (pv 15) pa_nil)) pa_nil))))
        (pss_cons (ps_set (i := 10) nd rfl (Or.inl rfl) (pe_call (ok_pairs T) (hr.mono (by decide)) rfl T.l_pairs_only.g T.l_pairs_only.F.kp T.l_pairs_only.b .nil pass0 (pa_cons (pe_call (ok_meetings T) (hr.mono (by decide)) rfl T.meetings.g T.meetings.F.kp T.meetings.b .nil pass0 (pa_cons (pe_make T.mHi (ok_Hi T) (hr.mono (by decide)) rfl T.gH T.bHi .nil pass0 (pa_cons (pv 6) (pa_cons pe_bl pa_nil))) (pa_cons (pv 8) pa_nil))) pa_nil)))
        (pss_one (ps_if (pt_cmpR (op_neD hr.units) (pe_call (ok_turned T) hr1 rfl T.l_turned.g T.l_turned.F.kp T.l_turned.b .nil pass0 (pa_cons (pv 12) pa_nil)) (pe_call (ok_turned T) hr1 rfl T.l_turned.g T.l_turned.F.kp T.l_turned.b .nil pass0 (pa_cons (pv 10) pa_nil)) (nomark _)) (pss_one (ps_ret pe_bl)) pss_nil)))))))))))))
      (pss_one (ps_ret pe_bl))), ?_⟩
    refine q_asgLstP (Ps := [fun v H' => ∃ p, v = .ref p ∧ LstD H' p (ns.map .num), fun v _ => v = .int 0, fun v _ => v = .int 0]) (eps_cons (fun H1 e1 Q q => el_list (K := K) (ev_var rfl) hS H1 e1 Q fun p H2 hp e2 h => q (.ref p) H2 e2 ⟨p, rfl, _, h, rp_ints H2 ns⟩) (fun _ _ _ e ⟨p, h1, h2⟩ => ⟨p, h1, h2.ex e⟩) (eps_cons (evp_ev ev_c fun _ _ => rfl) (fun _ _ _ _ h => h) (eps_cons (evp_ev ev_c fun _ _ => rfl) (fun _ _ _ _ h => h) eps_nil))) (by simp) fun F vs H1 e1 hF0 ha => ?_
    obtain ⟨_, _, _, rfl, ⟨L, rfl, hL⟩, rfl, rfl⟩ := ps3 ha
    have nLF : L ≠ F := fun z => by obtain ⟨o, ho⟩ := hL.some; rw [z, hF0] at ho; cases ho
    have eF : Ex H1 (upd H1 F (.lst [.ref L, .int 0, .int 0])) := Ex.new hF0
    have f1 : FeedAt (upd H1 F (.lst [.ref L, .int 0, .int 0])) F L := ⟨⟨0, 0, upd_same⟩, ⟨ns, hL.ex eF⟩, nLF⟩
    generalize hHH : upd H1 F (.lst [.ref L, .int 0, .int 0]) = H2 at f1 eF
    have e02 : Ex H H2 := e1.trans eF
    have hlen : Ev (tCB (rLenS K) (tCons (tVar 0) tNil)) [some (V.ref a), some (.ref F), none, none, none, none, none, none, none, none, none, none, none, none, none, none] H2 (.int (ns.length : Int)) := ev_is (ev_len (ev_var rfl) (ex_l e02 hS)) (by rw [List.length_map])
    obtain ⟨turns, hturns, ht⟩ : ∃ t : Int, Ev (tCB (fun xs H Q => ∃ i j, xs = [.int i, .int j] ∧ Q (.int (if j > i then j else i)) H) (tCons (tC (.int 3)) (tCons (tCB (fun xs H Q => ∃ i j, xs = [.int i, .int j] ∧ Q (.int (if j < i then j else i)) H) (tCons (tC (.int 6)) (tCons (tCB (rLenS K) (tCons (tVar 0) tNil)) tNil))) tNil))) [some (V.ref a), some (.ref F), none, none, none, none, none, none, none, none, none, none, none, none, none, none] H2 (.int t) ∧ (0 ≤ t ∧ t ≤ 100000) :=
      ⟨_, ev_cb (ea_cons ev_c (ea_cons (ev_cb (ea_cons ev_c (ea_cons hlen ea_nil)) fun H3 _ Q q => ⟨_, _, rfl, q H3 (Ex.refl _)⟩) ea_nil)) fun H3 _ Q q => ⟨_, _, rfl, q H3 (Ex.refl _)⟩, by split <;> split <;> omega⟩
    refine q_forR1 (n := turns) (ea_cons hturns ea_nil) ht (fun j σ' H' => (∃ z2 z3 z4 z5 z6 z7 z8 z9 z10 z11 z12 z13 z14 z15, σ' = [some (.ref a), some (.ref F), z2, z3, z4, z5, z6, z7, z8, z9, z10, z11, z12, z13, z14, z15]) ∧ FeedAt H' F L)
      (fun H3 e3 => ⟨⟨_, _, _, _, _, _, _, _, _, _, _, _, _, _, rfl⟩, f1.ex e3⟩) (fun j σ' H3 hj hp => ?_) (fun σ' H3 hp => ?_)
    · obtain ⟨⟨z2, z3, z4, z5, z6, z7, z8, z9, z10, z11, z12, z13, z14, z15, rfl⟩, f3⟩ := hp
      show tSeq _ _ _ [some (V.ref a), some (.ref F), some (.int (j : Int)), z3, z4, z5, z6, z7, z8, z9, z10, z11, z12, z13, z14, z15] H3
      have fr : ∀ {H' : Hp} {p : Addr}, FeedAt H' F L → H' p = none → p ≠ F ∧ p ≠ L := fun {H' p} f hp => ⟨fun z => (by obtain ⟨o, ho⟩ := f.at1; rw [← z, hp] at ho; cases ho), fun z => (by obtain ⟨o, ho⟩ := f.atL; rw [← z, hp] at ho; cases ho)⟩
      -- the rows
      refine q_asgF f3 (evf_call (P := fun v H' => ∃ p ks mk, v = .ref p ∧ p ≠ F ∧ LstD H' p (rowsD ks mk) ∧ RowsOk true ks mk) (Ps := [fun v _ => v = .ref F, fun v _ => v = .bl true, fun v _ => v = .int 18]) (efs_cons (evf_var rfl) (upf_v _) (efs_cons evf_c (upf_v _) (efs_cons evf_c (upf_v _) efs_nil))) fun H4 vs e4 f4 ha Q' q => ?_) fun v3 H4 x4 f4 ⟨Rl, ks, mk, ev, nRF, hRl, RO⟩ => ?_
      · obtain ⟨_, _, _, rfl, rfl, rfl, rfl⟩ := ps3 ha
        exact ⟨F, L, true, 18, rfl, f4, by decide, by decide, fun v H5 e5 f5 ⟨p, ks, mk, h1, h0, h2, h3⟩ => q v H5 e5 f5 ⟨p, ks, mk, h1, (fr f4 h0).1, h2, h3⟩⟩
      subst ev
      have kfew := RO.few
      obtain ⟨RS, hsm⟩ := PL.small ks mk RO
      have sm : ∀ (i : Nat) (x : V) (σ' : L2.St) (p : Path) (H2 : Hp), σ'[i]? = some (some x) → Rp H2 x (pk p) → p.length ≤ 50 → EvD (tCall spSmall [] E0 (tCons (tVar i) tNil)) σ' H2 (pk (smallP p)) := fun i x σ' p H2 hx rx hp =>
        evp_call (as := [.d (pk p)]) (eas_d (evd_var hx rx) eas_nil) fun H3 vs e3 ha Q' q => by
          obtain ⟨_, rfl, a1⟩ := one_arg ha
          exact ⟨_, p, rfl, a1, hp, q⟩
      refine q_asgP (evn_is (evn_lcY (e := fun p => pr (pk p) (mkk (mk p))) (as := ks) (evl_var rfl hRl) (by omega) (fun p => pr (pk (smallP p)) (mkk (mk p))) (fun v p H5 hp e5 rv => ?_) (fun _ _ _ _ _ => g_mono_two)) (es := rowsD (ks.map smallP) (smallMk ks mk)) ?_) fun v6 H5 e5 ⟨Sm, ev, hSm0, hSm⟩ => ?_
      · exact g_two rv fun x y rx ry => ⟨Ex.refl _, rfl, evd_tup (eds_cons (sm 4 x _ p _ rfl rx (by have := RO.len p hp; omega)) (eds_cons (evd_var rfl ry) eds_nil)) (by simp)⟩
      · unfold rowsD
        rw [List.map_map]
        refine List.map_congr_left fun p hp => ?_
        show _ = pr (pk (smallP p)) (mkk (smallMk ks mk (smallP p)))
        rw [hsm p hp]
      subst ev
      have f5 := f4.ex e5
      have nSF := (fr f4 hSm0).1
      have hRl5 := hRl.ex e5
      -- the wishes
      refine q_asgF f5 (evf_call (P := fun v H' => ∃ p wk wf, v = .ref p ∧ p ≠ F ∧ Fd eP w H' p wk (fun p => pk (wf p)) ∧ WishOk (ks.map smallP) (smallMk ks mk) wk wf) (Ps := [fun v _ => v = .ref F, fun v _ => v = .ref Sm, fun v _ => v = .bl true, fun v _ => v = .int 5]) (efs_cons (evf_var rfl) (upf_v _) (efs_cons (evf_var rfl) (upf_v _) (efs_cons evf_c (upf_v _) (efs_cons evf_c (upf_v _) efs_nil)))) fun H6 vs e6 f6 ha Q' q => ?_) fun v7 H6 x6 f6 ⟨wd, wk, wf, ev, nwF, hwd, WO⟩ => ?_
      · cases ha with
        | cons a0 ha =>
        obtain ⟨_, _, _, rfl, rfl, rfl, rfl⟩ := ps3 ha
        subst a0
        exact ⟨F, L, Sm, 5, _, _, rfl, f6, hSm.exb e6 nSF, RS, by decide, by decide, fun v H7 e7 f7 ⟨p, wk, wf, h1, h0, h2, h3⟩ => q v H7 e7 f7 ⟨p, wk, wf, h1, (fr f6 h0).1, h2, h3⟩⟩
      subst ev
      have hSm6 := hSm.exb x6 nSF
      have hRl6 := hRl5.exb x6 nRF
      have wfn : ∀ p ∈ wk, ∀ n ∈ wf p, okS n = true := fun p hp => by
        obtain ⟨o, g, _, h2⟩ := hwd
        exact (h2 p hp).names
      have wkl : wk.length ≤ 18 := Nat.le_trans (nodup_few WO.one WO.sub) (by rw [List.length_map]; omega)
      have wkn : ∀ p ∈ wk, p ≠ [] := fun p hp => RS.ne p (WO.sub p hp)
      refine q_asgLcF (Pz := fun v H' => ∃ p wk', v = .ref p ∧ LstD H' p (wD wk' wf) ∧ wk'.Perm wk) f6 (evf_call (Ps := [fun v _ => v = .ref F, fun v _ => v = .ref wd]) (efs_cons (evf_var rfl) (upf_v _) (efs_cons (evf_var rfl) (upf_v _) efs_nil)) fun H7 vs e7 f7 ha Q' q => ?_) fun v7 H7 x7 f7 ⟨Od, wk', ev, hOd, hperm⟩ => ?_
      · obtain ⟨_, _, rfl, rfl, rfl⟩ := ps2 ha
        exact ⟨F, L, wd, wk, wf, rfl, f7, hwd.exb e7 nwF, by omega, wkn, fun v H8 e8 f8 ⟨p, wk', h1, _, h2, h3⟩ => q v H8 e8 f8 ⟨p, wk', h1, h2, h3⟩⟩
      subst ev
      have hSm7 := hSm6.exb x7 nSF
      have hRl7 := hRl6.exb x7 nRF
      have pml := hperm.length_eq
      refine q_asgP (evn_is (evn_lcY (e := fun p => pr (pk p) (pk (wf p))) (as := wk') (evl_ev ev_c hOd) (by omega) (fun p => pr (pk p) (pk (lowW wf p))) (fun v p H8 hp e8 rv => ?_) (fun _ _ _ _ _ => g_mono_two)) (es := wD wk' (lowW wf)) rfl) fun v8 H8 e8 ⟨Hd, ev, hHd0, hHd⟩ => ?_
      · have hpw : p ∈ wk := hperm.mem_iff.mp hp
        have hne := WO.ne p hpw
        refine g_two rv fun x y rx ry => ⟨Ex.refl _, rfl, evd_tup (eds_cons (evd_var rfl rx) (eds_cons (evd_snoc (evd_init (evd_var rfl ry)) (evd_txt (ev_case (f := Txt.lower) (ev_txt (evd_last (evd_var rfl ry) hne)) (okS_len (wfn p hpw _ (lst_mem hne)))) (okS_low (wfn p hpw _ (lst_mem hne)))) (by have := WO.len p hpw; rw [List.length_dropLast]; omega)) eds_nil)) (by simp)⟩
      subst ev
      have hSm8 := hSm7.ex e8
      have hRl8 := hRl7.ex e8
      have f8 := f7.ex e8
      obtain ⟨n0, hAT⟩ := PL.alike ks mk wk wk' wf RO WO wfn hperm
      refine q_when (b := false) (et_is (et_not (et_B (ev_of (evp_two (Pz := fun v _ => v = V.bl true) rfl rfl fun H9 e9 Q' q => ⟨Sm, Hd, _, _, wk', lowW wf, n0, rfl, hSm8.ex e9, hHd.ex e9, hAT, fun H10 e10 => q _ H10 e10 rfl⟩)))) rfl) (fun hb => nomatch hb) (fun _ H9 e9 => ?_)
      refine q_asgP (evn_lst eds_nil) fun v9 H10 e10 ⟨So, ev, hSo0, hSo⟩ => ?_
      subst ev
      have f9 := f8.ex e9
      have f10 := f9.ex e10
      obtain ⟨nOF, nOL⟩ := fr f9 hSo0
      have hSm10 := (hSm8.ex e9).ex e10
      have hRl10 := (hRl8.ex e9).ex e10
      have nRO : Rl ≠ So := fun z => by obtain ⟨o, ho⟩ := (hRl8.ex e9).some; rw [z, hSo0] at ho; cases ho
      have nSO : Sm ≠ So := fun z => by obtain ⟨o, ho⟩ := (hSm8.ex e9).some; rw [z, hSo0] at ho; cases ho
      have rl : (rowsD ks mk).length = ks.length := by unfold rowsD; rw [List.length_map]
      refine q_forD (ev_var rfl) hRl10 (fun i σ' H' => (∃ z4 z5 z10 z11 z12 z13 z14 z15, σ' = [some (.ref a), some (.ref F), some (.int (j : Int)), some (.ref Rl), z4, z5, some (.ref Sm), some (.ref wd), some (.ref Hd), some (.ref So), z10, z11, z12, z13, z14, z15]) ∧ FeedAt H' F L ∧ ExS So F H10 H' ∧ ∃ prs : List (Path × Path), LstD H' So (prs.map pairD) ∧ prs.length ≤ i ∧ (prs.map (·.1)).Sublist (ks.take i) ∧ ∀ m ∈ prs, ∃ n, okS n = true ∧ m.2 = m.1.dropLast ++ [low n])
        (fun H11 e11 => ⟨⟨_, _, _, _, _, _, _, _, rfl⟩, f10.ex e11, ExS.of e11, [], hSo.ex e11, Nat.le_refl _, List.nil_sublist _, fun m hm => by cases hm⟩)
        (fun i σ' H' hp => ⟨hp.2.2.1.2, fun o ho => hp.2.2.1.1 _ _ nRO nRF ho⟩) (fun i v d σ' H11 hi rv hp => ?_) (fun σ' H11 hp => ?_)
      · obtain ⟨⟨y4, y5, y10, y11, y12, y13, y14, y15, rfl⟩, f11, x11, prs, hprs, hpl, hsub, hto⟩ := hp
        obtain ⟨p, hpp, rfl⟩ := rows_at hi
        have hpk : p ∈ ks := List.mem_of_getElem? hpp
        have hpne := RO.ne p hpk
        have hiks : i < ks.length := (List.getElem?_eq_some_iff.mp hpp).1
        have hRl11 := hRl10.exs x11 nRO nRF
        refine g_two rv fun vp vm rp rm => ?_
        have up2 : UpF F (fun x H => ∃ q ds, x = .ref q ∧ q ≠ F ∧ LstD H q ds ∧ ds.length ≤ 100 ∧ ∀ d ∈ ds, ∃ n, d = .text n ∧ okS n = true) := fun v H H' e ⟨q, ds, h1, h2, h3, h4, h5⟩ => ⟨q, ds, h1, h2, h3.exb e h2, h4, h5⟩
        -- names
        refine q_asgF f11 (evf_opF (S := fun v H => ∃ q ds, v = .ref q ∧ q ≠ F ∧ LstD H q ds ∧ 0 < ds.length ∧ ds.length ≤ 200 ∧ ∀ d ∈ ds, ∃ n, d = .text n ∧ okS n = true) (P := fun x H => ∃ q ds, x = .ref q ∧ q ≠ F ∧ LstD H q ds ∧ ds.length ≤ 100 ∧ ∀ d ∈ ds, ∃ n, d = .text n ∧ okS n = true) (P2 := LstP F L [IsT fun r => okS r = true]) (fun H12 x12 f12 Q q => ?_) up2 (evf_lst (fun P hP => by rw [List.mem_singleton.mp hP]; exact upf_t _ _) (efs_cons (evf_call (Ps := [fun v _ => v = .ref F]) (efs_cons (evf_var rfl) (upf_v _) efs_nil) fun H12 vs e12 f12 ha Q' q => ?_) (upf_t _ _) efs_nil) (by simp)) fun x y H12 x12 f12 px py Q q => ?_) fun vn H12 x12 f12 ⟨Nm, nds, ev, nNF, hNm, hn0, hn1, hnt⟩ => ?_
        · have EN : EvN (tLc (iList K (tVar 3)) (gTup K 2 (gCons (gName 14) (gCons (gName 10) gNil))) (tTest (tOp (rEqD K) (tSl (rSlA K) (tVar 14) tNoPart (tPart (tUn (rU fun i => .int (-i)) (tC (.int 1))))) (tSl (rSlA K) (tVar 4) tNoPart (tPart (tUn (rU fun i => .int (-i)) (tC (.int 1))))))) (tOp (rIxT K) (tVar 14) (tUn (rU fun i => .int (-i)) (tC (.int 1)))) [14, 10]) [some (V.ref a), some (.ref F), some (.int (j : Int)), some (.ref Rl), some vp, some vm, some (.ref Sm), some (.ref wd), some (.ref Hd), some (.ref So), y10, y11, y12, y13, y14, y15] H12 (ks.filterMap fun o => if o.dropLast = p.dropLast then some (.text (lst o)) else none) := by
            refine evn_lcA (e := fun p => pr (pk p) (mkk (mk p))) (as := ks) (evl_var rfl (hRl11.exb x12 nRF)) (by omega) (fun o : Path => if o.dropLast = p.dropLast then some (.text (lst o)) else none) (fun v o H13 ho e13 ro => ?_) (fun _ _ _ _ _ => g_mono_two)
            have hone := RO.ne o ho
            have rp13 := (rp.tk x12.2).ex e13
            refine g_two ro fun x y rx ry => ⟨Ex.refl _, rfl, _, et_test (ev_eqP (p := o.dropLast) (q := p.dropLast) (evd_init (evd_var rfl rx)) (evd_init (evd_var rfl rp13))), fun hb => ⟨.text (lst o), ?_, evd_last (evd_var rfl rx) hone⟩, fun hb => ?_⟩
            · rw [if_pos (by simpa using hb)]
            · rw [if_neg (by simpa using hb)]
          refine EN H12 (Ex.refl _) Q fun v H13 e13 ⟨A, ev, hA0, hA⟩ => q v H13 (ExB.of e13) (f12.ex e13) ⟨A, _, ev, (fr f12 hA0).1, hA, ?_, fun d hd => ?_⟩
          · exact Nat.le_trans (List.length_filterMap_le ..) (by omega)
          · obtain ⟨o, ho, he⟩ := List.mem_filterMap.mp hd
            split at he
            · cases he
              exact ⟨_, rfl, RO.ok o ho _ (lst_mem (RO.ne o ho))⟩
            · cases he
        · obtain ⟨_, rfl, rfl⟩ := ps1 ha
          exact ⟨F, L, rfl, f12, q⟩
        · obtain ⟨A, ds, rfl, nAF, ⟨xs, k1, k2⟩, hdl, hdt⟩ := px
          obtain ⟨B, ys, rfl, _, _, hB, hys⟩ := py
          obtain ⟨u, rfl, ⟨nm, rfl, hnm⟩⟩ := ps1 hys
          refine ⟨A, B, xs, _, rfl, rfl, k1, hB, sz_of (by rw [k2.length]; simp; omega), fun l hl => ?_⟩
          have el := Ex.new (o := .lst (xs ++ [V.str nm])) hl
          refine q _ _ el ⟨l, ds ++ [.text nm], rfl, fun z => ?_, ⟨_, upd_same, (k2.ex el).append (.one (.str nm hnm))⟩, by simp, by simp; omega, fun d hd => ?_⟩
          · obtain ⟨o, ho⟩ := f12.at1; rw [← z, hl] at ho; cases ho
          · rcases List.mem_append.mp hd with h | h
            · exact hdt d h
            · rw [List.mem_singleton.mp h]; exact ⟨nm, rfl, hnm⟩
        subst ev
        refine s_whenF (Pb := fun _ => True) f12 (fun H13 x13 f13 Q q => ?_) (fun H13 _ x13 f13 => ?_) (fun H13 _ x13 f13 => ?_)
        · refine evf_op (S := fun v _ => ∃ b, v = V.bl b) (P := IsN 0 3) (evf_drawC (F := F) (L := L) (H := H13) (m := 3) rfl) (upf_n _ _ _) evf_c (fun x y H5 e5 px py Q q => ?_) H13 (ExB.refl _ _) f13 _ fun vb H14 e14 f14 ⟨bb, ev⟩ => ?_
          · obtain ⟨j, rfl, _⟩ := px
            subst py
            exact ⟨rfl, q _ H5 (Ex.refl _) ⟨_, rfl⟩⟩
          · subst ev
            exact ⟨bb, rfl, q bb H14 e14 f14 trivial⟩
        · have x1113 : ExB F H11 H13 := x12.trans x13
          have rp13 := rp.tk x1113.2
          have hNm13 := hNm.exb x13 nNF
          have pdl : p.dropLast.length ≤ 1000 := by have := RO.len p hpk; rw [List.length_dropLast]; omega
          refine s_appF (Pd := fun d => ∃ e e', e = pk p ∧ (∃ n, okS n = true ∧ e' = pk (p.dropLast ++ [low n])) ∧ d = .tup [e, e']) f13 (hprs.exb x1113 nOF) nOF (fun H14 => ev_var rfl) (evf_tup2 (evf_dt (d := pk p) fun H14 x14 => evd_var rfl (rp13.tk x14.2)) (evf_catP (K := K) pdl (evf_pure fun H14 x14 => evd_init (evd_var rfl (rp13.tk x14.2))) (evf_tup1 (evf_case (EvF.imp (evf_ixD (K := K) hNm13 nNF (fun _ _ => ev_var rfl) (evf_draw (fun _ _ => ev_var rfl) (fun H14 x14 => ev_lenL (evl_var rfl (hNm13.exb x14 nNF))) (by omega) (by omega))) fun v H14 x14 ⟨d, hd, r⟩ => ⟨d, r, hnt d hd⟩))))) (by rw [List.length_map]; omega) nOL fun d H14 x14 f14 hd hprs14 => ?_
          obtain ⟨_, _, rfl, ⟨n, hn, rfl⟩, rfl⟩ := hd
          refine ⟨⟨_, _, _, _, _, _, _, _, rfl⟩, f14, (x11.trans (ExS.m x1113)).trans x14, prs ++ [(p, p.dropLast ++ [low n])], ?_, by rw [List.length_append, List.length_singleton]; omega, ?_, fun m hm => ?_⟩
          · rw [List.map_append]
            exact hprs14
          · rw [List.map_append, take_snoc hpp]
            exact hsub.append (List.Sublist.refl _)
          · rcases List.mem_append.mp hm with h | h
            · exact hto m h
            · rw [List.mem_singleton.mp h]
              exact ⟨n, hn, rfl⟩
        · have x1113 : ExB F H11 H13 := x12.trans x13
          refine ⟨⟨_, _, _, _, _, _, _, _, rfl⟩, f13, x11.trans (ExS.m x1113), prs, hprs.exb x1113 nOF, by omega, ?_, hto⟩
          rw [take_snoc hpp]
          exact hsub.trans (List.sublist_append_left _ _)
      · obtain ⟨⟨y4, y5, y10, y11, y12, y13, y14, y15, rfl⟩, f11, x11, prs, hprs, hpl, hsub, hto⟩ := hp
        rw [rl] at hpl hsub
        rw [List.take_length] at hsub
        have TO : ThirdOk ks prs := ⟨hsub, hto⟩
        obtain ⟨W1, W2, G1, wd1, G2, wd2, hEq⟩ := PL.third ks mk prs RO TO
        have hRl11 := hRl10.exs x11 nRO nRF
        have hSm11 := hSm10.exs x11 nSO nSF
        -- both pairs
        have both : ∀ (b : Bool) (ir iw : Nat) (Ra Wa : Addr) (ks' : List Path) (mk' : Path → Mark) (wk' : List Path) (wf' : Path → Path) (σ' : L2.St) (H12 : Hp), σ'[ir]? = some (some (.ref Ra)) → σ'[iw]? = some (some (.ref Wa)) → LstD H12 Ra (rowsD ks' mk') → LstD H12 Wa (wD wk' wf') → WfH b ks' mk' → GoodW ks' mk' wk' wf' → ks'.length ≤ 18 →
            EvLs (tCall spPairs [] E0 (tCons (tCall (spMeet w T.CH) [] E0 (tCons (tMake T.CH (spHi w T.CH) [] E0 (tCons (tVar ir) (tCons (tC (.bl b)) tNil))) (tCons (tVar iw) tNil))) tNil)) σ' H12 ((pairsO (foundS b wk' wf' ks')).map pairD) := fun b ir iw Ra Wa ks' mk' wk' wf' σ' H12 h1 h2 hRa hWa hWf hG hk18 => by
          have hml : (foundS b wk' wf' ks').length ≤ 40000 := Nat.le_trans (foundS_len hk18) (by decide)
          refine evp_callP (Ps := [IsL ((foundS b wk' wf' ks').map trD)]) (eps_cons (evp_callP (Ps := [fun v H' => ∃ x, v = .ref x ∧ HallAt w T.CH H' x b ks' mk', fun v _ => v = .ref Wa]) (eps_cons (evp_make (as := [.v (.ref Ra), .v (.bl b)]) (eas_v (ev_var h1) (eas_v ev_c eas_nil)) fun H2 Hn vs x dx e2 ha nx en hx Q' q => ?_) (fun _ _ _ e ⟨x, h1, h2⟩ => ⟨x, h1, h2.ex e⟩) (eps_cons (evp_ev (ev_var h2) fun _ _ => rfl) (fun _ _ _ _ h => h) eps_nil)) fun H13 vs e13 ha Q' q => ?_) (up_l _) eps_nil) fun H13 vs e13 ha Q' q => ?_
          · obtain ⟨_, _, rfl, rfl, rfl⟩ := two_args ha
            exact ⟨x, Ra, b, ks', mk', dx, rfl, hx, hRa.ex (e2.trans en), hWf, fun H' x' hC => q H' x' ⟨x, rfl, hC⟩⟩
          · obtain ⟨_, _, rfl, ⟨x, rfl, hX⟩, rfl⟩ := ps2 ha
            refine ⟨x, Wa, b, ks', mk', wk', wf', rfl, hX, hWa.ex e13, hG, fun v H14 e14 ⟨p, h1, _, h2⟩ => q v H14 e14 ⟨p, h1, ?_⟩⟩
            unfold meetD at h2
            rw [sort_tr] at h2
            exact h2
          · obtain ⟨_, rfl, ⟨p, rfl, hp⟩⟩ := ps1 ha
            refine ⟨p, foundS b wk' wf' ks', rfl, hp, hml, fun m hm => ?_, fun v H14 e14 ⟨p, h1, _, h2⟩ => q v H14 e14 ⟨p, h1, ?_⟩⟩
            · obtain ⟨m1, m2⟩ := mem_foundM (List.mem_mergeSort.mp hm)
              have l1 := hG.len _ (mem_sortP.mp (mem_sortP.mp m1))
              have l2 := hG.len _ (mem_sortP.mp (mem_sortP.mp m2))
              exact ⟨by omega, by omega⟩
            · rw [sort_pair] at h2
              exact h2
        refine q_asgP (both true 3 9 Rl So ks mk _ _ _ H11 rfl rfl hRl11 (by rw [wd1]; exact hprs) W1 G1 kfew) fun v12 H12 e12 ⟨Fa, ev, hFa⟩ => ?_
        subst ev
        refine q_asgP (evn_is (evn_lcY (e := pairD) (as := prs) (evl_var rfl (hprs.ex e12)) (by omega) (fun m => pairD (smallP m.1, smallP m.2)) (fun v m H13 hm e13 rv => ?_) (fun _ _ _ _ _ => g_mono_two)) (es := wD (prs.map fun m => smallP m.1) (asF (prs.map fun m => (smallP m.1, smallP m.2)))) ?_) fun v8 H13 e13 ⟨Hs, ev, hHs0, hHs⟩ => ?_
        · have hmk : m.1 ∈ ks := hsub.subset (List.mem_map.mpr ⟨m, hm, rfl⟩)
          have hm1 := RO.len m.1 hmk
          obtain ⟨n, hn, hm2⟩ := hto m hm
          refine g_two rv fun x y rx ry => ⟨Ex.refl _, rfl, evd_tup (eds_cons (sm 14 x _ m.1 _ rfl rx (by omega)) (eds_cons (sm 15 y _ m.2 _ rfl ry (by rw [hm2, List.length_append, List.length_dropLast, List.length_singleton]; omega)) eds_nil)) (by simp)⟩
        · rw [wd2, List.map_map]
          rfl
        subst ev
        refine q_asgP (both false 6 8 Sm Hs _ _ _ _ _ H13 rfl rfl (hSm11.ex (e12.trans e13)) hHs W2 G2 (by rw [List.length_map]; exact kfew)) fun v10 H14 e14 ⟨Oa, ev, hOa⟩ => ?_
        subst ev
        have turn : ∀ (i : Nat) (A : Addr) (ms : List (Path × Path)) (σ' : L2.St) (H15 : Hp), σ'[i]? = some (some (.ref A)) → LstD H15 A (ms.map pairD) → ms.length ≤ 40000 → EvLs (tCall spTurned [] E0 (tCons (tVar i) tNil)) σ' H15 ((turnO ms).map pairD) := fun i A ms σ' H15 h1 h2 h3 =>
          evp_call (as := [.v (.ref A)]) (eas_v (ev_var h1) eas_nil) fun H16 vs e16 ha Q' q => by
            obtain ⟨_, rfl, rfl⟩ := one_arg ha
            refine ⟨A, ms, rfl, h2.ex e16, h3, fun v H17 e17 ⟨p, h1, _, h2⟩ => q v H17 e17 ⟨p, h1, ?_⟩⟩
            rw [sort_pair] at h2
            exact h2
        have dpr : ∀ ms : List (Path × Path), NestedKey.depthAll (ms.map pairD) ≤ 8 := fun ms => depthAll_le.mpr fun d hd => by
          obtain ⟨m, _, rfl⟩ := List.mem_map.mp hd
          unfold pairD pr
          rw [NestedKey.depth, NestedKey.depthAll, NestedKey.depthAll, NestedKey.depthAll, dep_pk, dep_pk]
          decide
        refine s_when (b := false) (et_is (et_test (ev_neL (turn 12 Fa _ _ H14 rfl (hFa.ex (e13.trans e14)) ?_) (turn 10 Oa _ _ H14 rfl hOa ?_) (dpr _) (dpr _))) ?_) (fun hb => nomatch hb) (fun _ H15 e15 => ⟨⟨_, _, _, _, _, _, _, _, _, _, _, _, _, _, rfl⟩, f11.ex (((e12.trans e13).trans e14).trans e15)⟩)
        · rw [pairsO_len]; exact Nat.le_trans (foundS_len kfew) (by decide)
        · rw [pairsO_len]; exact Nat.le_trans (foundS_len (by rw [List.length_map]; exact kfew)) (by decide)
        · rw [hEq]
          simp
    · obtain ⟨⟨z2, z3, z4, z5, z6, z7, z8, z9, z10, z11, z12, z13, z14, z15, rfl⟩, f3⟩ := hp
      exact s_ret ev_c fun H' e' => k H'
end
end R
/-! P1: small paths tell apart; the rows with small names -/
namespace R
open PySem L2 Evl
theorem small_len (p : Path) : (smallP p).length = p.length := List.length_map ..
theorem small_drop (p : Path) : (smallP p).dropLast = smallP p.dropLast := by unfold smallP; rw [List.map_dropLast]
theorem small_nil {p : Path} : smallP p = [] ↔ p = [] := by unfold smallP; exact List.map_eq_nil_iff
theorem small_lst {p : Path} (h : p ≠ []) : lst (smallP p) = low (lst p) := by
  conv => lhs; rw [← init_lst h]
  unfold smallP
  rw [List.map_append, List.map_cons, List.map_nil, lst_snoc]
theorem small_snoc (p : Path) (n : Str) : smallP (p ++ [n]) = smallP p ++ [low n] := by unfold smallP; rw [List.map_append]; rfl
theorem small_inj_len {ks : List Path} {mk : Path → Mark} (R : RowsOk true ks mk) : ∀ (n : Nat) (p q : Path), p.length ≤ n → (p = [] ∨ p ∈ ks) → (q = [] ∨ q ∈ ks) → smallP p = smallP q → p = q
  | 0, p, q, hl, _, _, e => by
    have hp : p = [] := List.length_eq_zero_iff.mp (Nat.le_zero.mp hl)
    subst hp
    have : smallP q = [] := e.symm
    rw [small_nil] at this
    exact this.symm
  | n + 1, p, q, hl, hp, hq, e => by
    have hlen : p.length = q.length := by rw [← small_len p, ← small_len q, e]
    rcases hp with rfl | hp
    · exact (List.length_eq_zero_iff.mp hlen.symm).symm
    rcases hq with rfl | hq
    · exact List.length_eq_zero_iff.mp hlen
    have p0 := R.ne p hp
    have q0 := R.ne q hq
    have dr : ∀ {x}, x ∈ ks → x.dropLast = [] ∨ x.dropLast ∈ ks := fun hx => (isDr_or (R.dr _ hx)).imp id (·.1)
    have e1 : p.dropLast = q.dropLast := small_inj_len R n _ _ (by rw [List.length_dropLast]; omega) (dr hp) (dr hq) (by rw [← small_drop, ← small_drop, e])
    refine R.inj hp hq ?_
    unfold keyB hold
    simp only [if_true]
    rw [e1, ← small_lst p0, ← small_lst q0, e]
theorem small_inj {ks : List Path} {mk : Path → Mark} (R : RowsOk true ks mk) {p q : Path} (hp : p = [] ∨ p ∈ ks) (hq : q = [] ∨ q ∈ ks) (e : smallP p = smallP q) : p = q := small_inj_len R _ p q (Nat.le_refl _) hp hq e
theorem smallMk_at {ks : List Path} {mk : Path → Mark} (R : RowsOk true ks mk) {p : Path} (hp : p ∈ ks) : smallMk ks mk (smallP p) = mk p := by
  unfold smallMk
  cases h : ks.find? (fun q => decide (smallP q = smallP p)) with
  | none =>
    have := List.find?_eq_none.mp h p hp
    simp at this
  | some q =>
    have h1 := List.find?_some h
    have h2 := List.mem_of_find?_eq_some h
    have : q = p := small_inj R (.inr h2) (.inr hp) (by simpa using h1)
    rw [this]
theorem isDr_small {ks : List Path} {mk : Path → Mark} (R : RowsOk true ks mk) {d : Path} (h : isDr ks mk d = true) : isDr (ks.map smallP) (smallMk ks mk) (smallP d) = true := by
  rcases isDr_or h with e | ⟨h1, h2⟩
  · rw [e]; rfl
  · unfold isDr
    rw [smallMk_at R h1]
    have : smallP d ∈ ks.map smallP := List.mem_map.mpr ⟨d, h1, rfl⟩
    simp [this, h2]
theorem low_of {s : Str} (h : okS s = true) : okS (low s) = true ∧ low (low s) = low s := ⟨okS_low h, low_low h⟩
theorem rows_small {ks : List Path} {mk : Path → Mark} (R : RowsOk true ks mk) : RowsOk true (ks.map smallP) (smallMk ks mk) where
  few := by rw [List.length_map]; exact R.few
  ne := fun q hq => by
    obtain ⟨p, hp, rfl⟩ := List.mem_map.mp hq
    exact fun e => R.ne p hp (small_nil.mp e)
  len := fun q hq => by
    obtain ⟨p, hp, rfl⟩ := List.mem_map.mp hq
    rw [small_len]; exact R.len p hp
  ok := fun q hq n hn => by
    obtain ⟨p, hp, rfl⟩ := List.mem_map.mp hq
    obtain ⟨m, hm, rfl⟩ := List.mem_map.mp hn
    exact okS_low (R.ok p hp m hm)
  dr := fun q hq => by
    obtain ⟨p, hp, rfl⟩ := List.mem_map.mp hq
    rw [small_drop]
    exact isDr_small R (R.dr p hp)
  keys := by
    rw [List.map_map]
    have hk := R.keys
    have ksn : ks.Nodup := (List.pairwise_map.mp hk).imp fun hne e => hne (congrArg _ e)
    refine List.pairwise_map.mpr (List.Pairwise.imp_of_mem ?_ ksn)
    intro p q hp hq hne e
    refine hne (small_inj R (.inr hp) (.inr hq) ?_)
    have e' : keyB true (smallP p) = keyB true (smallP q) := e
    unfold keyB hold at e'
    simp only [if_true, Prod.mk.injEq] at e'
    have p0 : smallP p ≠ [] := fun z => R.ne p hp (small_nil.mp z)
    have q0 : smallP q ≠ [] := fun z => R.ne q hq (small_nil.mp z)
    rw [← init_lst p0, ← init_lst q0, e'.1]
    congr 2
    have lp := R.ok p hp _ (lst_mem (R.ne p hp))
    have lq := R.ok q hq _ (lst_mem (R.ne q hq))
    have e2 := e'.2
    rw [small_lst (R.ne p hp), small_lst (R.ne q hq), low_low lp, low_low lq] at e2
    rw [small_lst (R.ne p hp), small_lst (R.ne q hq), e2]
theorem plain_small (ks : List Path) (mk : Path → Mark) (R : RowsOk true ks mk) : RowsOk true (ks.map smallP) (smallMk ks mk) ∧ ∀ p ∈ ks, smallMk ks mk (smallP p) = mk p := ⟨rows_small R, fun _ hp => smallMk_at R hp⟩
/-- all names are small -/
def LowP (p : Path) : Prop := ∀ n ∈ p, okS n = true ∧ low n = n
theorem low_small {p : Path} (h : ∀ n ∈ p, okS n = true) : LowP (smallP p) := fun n hn => by
  obtain ⟨m, hm, rfl⟩ := List.mem_map.mp hn
  exact low_of (h m hm)
theorem LowP.lst {p : Path} (h : LowP p) (hp : p ≠ []) : low (lst p) = lst p := (h _ (lst_mem hp)).2
theorem hold_low {b : Bool} {n : Str} (h : low n = n) : hold b n = n := by unfold hold; split <;> simp [h]
end R
/-! P2: wishes with small names, plainly: no two meet, blind or not -/
namespace R
open PySem L2 Evl
structure LowW (ks : List Path) (mk : Path → Mark) (wk : List Path) (wf : Path → Path) : Prop where
  R : RowsOk true ks mk
  kl : ∀ p ∈ ks, LowP p
  one : wk.Nodup
  sub : ∀ p ∈ wk, p ∈ ks
  ne : ∀ p ∈ wk, wf p ≠ []
  len : ∀ p ∈ wk, (wf p).length ≤ 6
  dr : ∀ p ∈ wk, isDr ks mk (wf p).dropLast = true
  fix : ∀ p ∈ wk, mk p = none → (wf p).dropLast = p.dropLast
  wl : ∀ p ∈ wk, LowP (wf p)
  inj : ∀ p ∈ ks, ∀ q ∈ ks, plc wk wf p = plc wk wf q → p = q
theorem LowP.drop {p : Path} (h : LowP p) : LowP p.dropLast := fun n hn => h n (List.dropLast_subset _ hn)
theorem LowP.snoc {p : Path} {n : Str} (h : LowP p) (hn : okS n = true ∧ low n = n) : LowP (p ++ [n]) := fun m hm => by
  rcases List.mem_append.mp hm with h' | h'
  · exact h m h'
  · rw [List.mem_singleton.mp h']; exact hn
theorem dr_low {ks : List Path} {mk : Path → Mark} {d : Path} (kl : ∀ p ∈ ks, LowP p) (h : isDr ks mk d = true) : LowP d := by
  rcases isDr_or h with e | ⟨h1, _⟩
  · rw [e]; intro n hn; cases hn
  · exact kl d h1
theorem keyB_lowW (wf : Path → Path) {p : Path} (ho : okS (lst (wf p)) = true) : keyB true (lowW wf p) = keyB true (wf p) := by
  unfold keyB hold lowW
  rw [List.dropLast_concat, lst_snoc]
  simp only [if_true]
  rw [low_low ho]
/-- the wishes that are handed in -/
theorem lowW_of {ks : List Path} {mk : Path → Mark} {wk wk' : List Path} {wf : Path → Path} (R : RowsOk true ks mk) (kl : ∀ p ∈ ks, LowP p) (W : WishOk ks mk wk wf) (hn : ∀ p ∈ wk, ∀ n ∈ wf p, okS n = true) (hp : wk'.Perm wk) : LowW ks mk wk' (lowW wf) where
  R := R
  kl := kl
  one := hp.nodup_iff.mpr W.one
  sub := fun p h => W.sub p (hp.mem_iff.mp h)
  ne := fun p _ => by simp [lowW]
  len := fun p h => by
    have h' := hp.mem_iff.mp h
    have := W.len p h'
    have := List.length_pos_iff.mpr (W.ne p h')
    simp only [lowW, List.length_append, List.length_dropLast, List.length_singleton]
    omega
  dr := fun p h => by simp only [lowW, List.dropLast_concat]; exact W.dr p (hp.mem_iff.mp h)
  fix := fun p h hm => by simp only [lowW, List.dropLast_concat]; exact W.fix p (hp.mem_iff.mp h) hm
  wl := fun p h => by
    have h' := hp.mem_iff.mp h
    exact (dr_low kl (W.dr p h')).snoc (low_of (hn p h' _ (lst_mem (W.ne p h'))))
  inj := fun p hpk q hqk e => by
    refine W.inj p hpk q hqk ?_
    have key : ∀ x ∈ ks, keyB true (plc wk wf x) = keyB true (plc wk' (lowW wf) x) := fun x hx => by
      unfold plc
      by_cases h : x ∈ wk
      · rw [if_pos h, if_pos (hp.mem_iff.mpr h), keyB_lowW wf (hn x h _ (lst_mem (W.ne x h)))]
      · rw [if_neg h, if_neg fun z => h (hp.mem_iff.mp z)]
    rw [key p hpk, key q hqk, e]
section
variable {ks : List Path} {mk : Path → Mark} {wk : List Path} {wf : Path → Path}
theorem LowW.ksn (W : LowW ks mk wk wf) : ks.Nodup := (List.pairwise_map.mp W.R.keys).imp fun hne e => hne (congrArg _ e)
theorem LowW.good (W : LowW ks mk wk wf) : GoodW ks mk wk wf where
  few := Nat.le_trans W.R.few (by decide)
  kne := W.R.ne
  len := W.R.len
  kdr := W.R.dr
  one := W.one
  sub := W.sub
  ne := W.ne
  wlen := W.len
  dr := W.dr
  fix := W.fix
theorem LowW.pl (W : LowW ks mk wk wf) {p : Path} (h : p ∈ ks) : LowP (plc wk wf p) := by
  unfold plc
  split
  · rename_i h1; exact W.wl p h1
  · exact W.kl p h
theorem path_eq {p q : Path} (hp : p ≠ []) (hq : q ≠ []) (h1 : p.dropLast = q.dropLast) (h2 : lst p = lst q) : p = q := by rw [← init_lst hp, ← init_lst hq, h1, h2]
/-- where something lies at a place: just where its path is there, blind or not -/
theorem there_low {b : Bool} {xs : List Path} {x : Path} (hx : x ≠ []) (lx : LowP x) (hne : ∀ p ∈ xs, p ≠ []) (hl : ∀ p ∈ xs, LowP p) : thereM b xs x = if x ∈ xs then some x else none := by
  unfold thereM
  by_cases h : x ∈ xs
  · rw [if_pos h, if_pos h]
  · rw [if_neg h, if_neg h]
    split
    · refine find_not fun q hq => ?_
      by_cases h1 : q.dropLast = x.dropLast
      · have : low (lst q) ≠ low (lst x) := fun e => by
          rw [(hl q hq).lst (hne q hq), lx.lst hx] at e
          exact h (path_eq (hne q hq) hx h1 e ▸ hq)
        simp [this]
      · simp [h1]
    · rfl
theorem LowW.wfH (W : LowW ks mk wk wf) (b : Bool) {xs : List Path} (hn : xs.Nodup) (hm : ∀ p, p ∈ xs ↔ p ∈ ks) : WfH b xs mk where
  ne := fun p hp => W.R.ne p ((hm p).mp hp)
  dr := fun p hp => by rw [isDr_perm hm]; exact W.R.dr p ((hm p).mp hp)
  no := fun i p hi => by
    have hp := (hm p).mp (List.mem_of_getElem? hi)
    rw [there_low (W.R.ne p hp) (W.kl p hp) (fun q hq => W.R.ne q ((hm q).mp (List.mem_of_mem_take hq))) (fun q hq => W.kl q ((hm q).mp (List.mem_of_mem_take hq))), if_neg (nodup_take_not hn hi)]
  few := by
    have := nodup_few hn fun p hp => (hm p).mp hp
    have := W.R.few
    omega
theorem LowW.no (W : LowW ks mk wk wf) (b : Bool) : foundM b (plc wk wf) (sortP (sortP ks)) = [] := by
  have hm : ∀ p ∈ sortP (sortP ks), p ∈ ks := fun p hp => mem_sortP.mp (mem_sortP.mp hp)
  have hn : (sortP (sortP ks)).Nodup := sortP_nodup (sortP_nodup W.ksn)
  unfold foundM
  rw [List.flatMap_eq_nil_iff]
  intro k _
  have h1 : (grp b (plc wk wf) (sortP (sortP ks)) k).length ≤ 1 := by
    rcases hg : grp b (plc wk wf) (sortP (sortP ks)) k with _ | ⟨x, _ | ⟨y, r⟩⟩
    · simp
    · simp
    · exfalso
      have hx := List.mem_filter.mp (show x ∈ grp b (plc wk wf) (sortP (sortP ks)) k by rw [hg]; simp)
      have hy := List.mem_filter.mp (show y ∈ grp b (plc wk wf) (sortP (sortP ks)) k by rw [hg]; simp)
      have hnd : (grp b (plc wk wf) (sortP (sortP ks)) k).Nodup := hn.filter _
      rw [hg] at hnd
      have hne : x ≠ y := fun e => (List.nodup_cons.mp hnd).1 (e ▸ List.mem_cons_self ..)
      have e : spotOf b (plc wk wf) x = spotOf b (plc wk wf) y := (of_decide_eq_true hx.2).trans (of_decide_eq_true hy.2).symm
      have kx := hm x hx.1
      have ky := hm y hy.1
      have nx := W.good.pne kx
      have ny := W.good.pne ky
      unfold spotOf at e
      simp only [Prod.mk.injEq] at e
      rw [hold_low ((W.pl kx).lst nx), hold_low ((W.pl ky).lst ny)] at e
      exact hne (W.inj x kx y ky (path_eq nx ny e.1 e.2))
  unfold pairsK
  rw [List.flatMap_eq_nil_iff]
  intro j hj
  rw [List.drop_eq_nil_of_le (by omega)]
  rfl
theorem LowW.ah (W : LowW ks mk wk wf) (b : Bool) {p : Path} (hp : p ∈ movers wk wf) : ahW b ks wk wf p = if wf p ∈ movers wk wf then some (wf p) else none := by
  obtain ⟨hw, hne⟩ := movers_sub hp
  unfold ahW ahM
  rw [there_low (W.ne p hw) (W.wl p hw) W.R.ne W.kl]
  by_cases h : wf p ∈ movers wk wf
  · rw [if_pos (W.sub _ (movers_sub h).1), if_pos h]
    exact if_pos ⟨fun e => hne e.symm, h⟩
  · rw [if_neg h]
    by_cases hk : wf p ∈ ks
    · rw [if_pos hk]
      exact if_neg fun z => h z.2
    · rw [if_neg hk]
end
/-! ### the same behind, the same chains and rings -/
section
variable {mv : List Path} {ah ah' : Path → Option Path}
theorem along_congr (h : ∀ p ∈ mv, ah p = ah' p) {first : Path} : ∀ {n : Nat} {c : Option Path}, EndsIn mv ah first n c → goF ah first n c = goF ah' first n c
  | 0, _, _ => rfl
  | _ + 1, none, _ => rfl
  | n + 1, some q, e => by
    unfold goF
    by_cases hq : q = first
    · rw [if_pos hq, if_pos hq]
    · rw [if_neg hq, if_neg hq]
      rcases e with e | ⟨e1, e2⟩
      · exact absurd e hq
      · rw [along_congr h e2, h q e1]
theorem alongF_congr (h : ∀ p ∈ mv, ah p = ah' p) {n : Nat} (A : AhOk mv ah n) {p : Path} (hp : p ∈ mv) : alongF ah n p = alongF ah' n p := by
  unfold alongF
  rw [along_congr h (A.fin p hp), h p hp]
theorem firsts_congr (h : ∀ p ∈ mv, ah p = ah' p) : firstsM mv ah = firstsM mv ah' := by
  unfold firstsM
  rw [List.map_congr_left h]
theorem ringsF_congr (h : ∀ p ∈ mv, ah p = ah' p) {n : Nat} (A : AhOk mv ah n) : ∀ {ps : List Path} (seen : List Path), (∀ p ∈ ps, p ∈ mv) → ringsF ah n ps seen = ringsF ah' n ps seen
  | [], _, _ => rfl
  | p :: ps, seen, hp => by
    have h1 := alongF_congr h A (hp p (List.mem_cons_self ..))
    have h2 := fun s => ringsF_congr h A (ps := ps) s fun q hq => hp q (List.mem_cons_of_mem _ hq)
    unfold ringsF
    rw [h1, h2, h2]
theorem chains_congr (h : ∀ p ∈ mv, ah p = ah' p) {n : Nat} (A : AhOk mv ah n) : chainsM mv ah n = chainsM mv ah' n := by
  unfold chainsM
  rw [← firsts_congr h]
  exact List.map_congr_left fun p hp => alongF_congr h A (firsts_mem hp)
theorem rings_congr (h : ∀ p ∈ mv, ah p = ah' p) {n : Nat} (A : AhOk mv ah n) : ringsM mv ah n = ringsM mv ah' n := by
  have e : (firstsM mv ah).flatMap (alongF ah n) = (firstsM mv ah').flatMap (alongF ah' n) := by
    rw [← firsts_congr h, List.flatMap_def, List.flatMap_def, List.map_congr_left fun p hp => alongF_congr h A (firsts_mem hp)]
  unfold ringsM
  rw [← e]
  exact ringsF_congr h A _ fun p hp => mem_sortP.mp hp
/-- one after another one comes back, or to an end -/
theorem ends_in (hr : ∀ p ∈ mv, ∀ q, ah p = some q → q ∈ mv) (hi : ∀ p ∈ mv, ∀ q ∈ mv, ∀ r, ah p = some r → ah q = some r → p = q) {first : Path} : ∀ (n : Nat) (s : List Path) (x : Path), s.Nodup → (∀ y ∈ s, y ∈ mv) → x ∈ s → (∀ y ∈ s, y = first ∨ ∃ z ∈ s, z ≠ x ∧ ah z = some y) → mv.length < s.length + n → EndsIn mv ah first n (ah x)
  | 0, s, x, hn, hs, _, _, hl => by
    have := nodup_few hn hs
    omega
  | n + 1, s, x, hn, hs, hx, hp, hl => by
    cases hc : ah x with
    | none => trivial
    | some q =>
      by_cases hq : q = first
      · exact .inl hq
      · have hqm := hr x (hs x hx) q hc
        refine .inr ⟨hqm, ?_⟩
        have hqs : q ∉ s := fun h => by
          rcases hp q h with e | ⟨z, hz, hzx, hzq⟩
          · exact hq e
          · exact hzx (hi z (hs z hz) x (hs x hx) q hzq hc)
        refine ends_in hr hi n (s ++ [q]) q ?_ ?_ (by simp) (fun y hy => ?_) (by rw [List.length_append, List.length_singleton]; omega)
        · rw [List.nodup_append]
          exact ⟨hn, by simp, fun a ha b hb e => hqs (by rw [← List.mem_singleton.mp hb, ← e]; exact ha)⟩
        · intro y hy
          rcases List.mem_append.mp hy with h | h
          · exact hs y h
          · rw [List.mem_singleton.mp h]; exact hqm
        · rcases List.mem_append.mp hy with h | h
          · rcases hp y h with e | ⟨z, hz, _, hzy⟩
            · exact .inl e
            · exact .inr ⟨z, List.mem_append.mpr (.inl hz), fun e => hqs (e ▸ hz), hzy⟩
          · rw [List.mem_singleton.mp h]
            exact .inr ⟨x, List.mem_append.mpr (.inl hx), fun e => hqs (e ▸ hx), hc⟩
end
section
variable {ks : List Path} {mk : Path → Mark} {wk : List Path} {wf : Path → Path}
theorem LowW.wfew (W : LowW ks mk wk wf) : (movers wk wf).length ≤ 18 := Nat.le_trans (nodup_few (W.one.filter _) fun p hp => W.sub p (movers_sub hp).1) W.R.few
theorem LowW.plm (W : LowW ks mk wk wf) {p : Path} (h : p ∈ movers wk wf) : plc wk wf p = wf p := if_pos (movers_sub h).1
theorem LowW.winj (W : LowW ks mk wk wf) {p q : Path} (hp : p ∈ movers wk wf) (hq : q ∈ movers wk wf) (e : wf p = wf q) : p = q :=
  W.inj p (W.sub p (movers_sub hp).1) q (W.sub q (movers_sub hq).1) (by rw [W.plm hp, W.plm hq, e])
theorem LowW.ahr (W : LowW ks mk wk wf) (b : Bool) {p q : Path} (hp : p ∈ movers wk wf) (h : ahW b ks wk wf p = some q) : q ∈ movers wk wf ∧ q = wf p := by
  rw [W.ah b hp] at h
  split at h
  · rename_i h1; cases h; exact ⟨h1, rfl⟩
  · cases h
theorem LowW.ahok (W : LowW ks mk wk wf) (b : Bool) : AhOk (movers wk wf) (ahW b ks wk wf) 20 where
  few := Nat.le_trans W.wfew (by decide)
  nd := W.one.filter _
  nn := by decide
  ne := fun p hp => W.R.ne p (W.sub p (movers_sub hp).1)
  fin := fun p hp => ends_in (fun q hq r h => (W.ahr b hq h).1) (fun q hq r hr x h1 h2 => W.winj hq hr (by rw [← (W.ahr b hq h1).2, ← (W.ahr b hr h2).2])) 20 [p] p (by simp) (by simpa using hp) (by simp) (fun y hy => .inl (List.mem_singleton.mp hy)) (by have := W.wfew; simp; omega)
end
end R
/-! P3: one single move, plainly -/
namespace R
open PySem L2 Evl
structure PlOk (ks : List Path) (mk : Path → Mark) (pl : Path → Path) : Prop where
  R : RowsOk true ks mk
  ne : ∀ p ∈ ks, pl p ≠ []
  dr : ∀ p ∈ ks, isDr ks mk (pl p).dropLast = true
  fix : ∀ p ∈ ks, mk p = none → (pl p).dropLast = p.dropLast
  inj : ∀ p ∈ ks, ∀ q ∈ ks, pl p = pl q → p = q
def now (pl : Path → Path) (p : Path) : Path := thenF pl 7 p
theorem fuel {ks : List Path} {pl : Path → Path} : ∀ {n m : Nat} {p : Path}, Cl ks pl n p → n ≤ m → thenF pl m p = thenF pl n p
  | 0, m, p, c, _ => by
    have e : p = [] := c
    subst e
    cases m with
    | zero => rfl
    | succ m => rfl
  | n + 1, 0, _, _, h => absurd h (Nat.not_succ_le_zero _)
  | n + 1, m + 1, p, c, h => by
    unfold thenF
    by_cases e : p = []
    · rw [if_pos e, if_pos e]
    · rw [if_neg e, if_neg e]
      rcases c with c | ⟨_, _, c⟩
      · exact absurd c e
      · rw [fuel c (Nat.le_of_succ_le_succ h)]
section
variable {ks : List Path} {mk : Path → Mark} {pl : Path → Path}
theorem isDr_len' (O : PlOk ks mk pl) {d : Path} (h : isDr ks mk d = true) : d.length ≤ 6 := isDr_len O.R.len h
theorem PlOk.clD (O : PlOk ks mk pl) : ∀ n d, isDr ks mk d = true → d.length ≤ n → Cl ks pl n d
  | 0, d, _, hl => List.length_eq_zero_iff.mp (Nat.le_zero.mp hl)
  | n + 1, d, h, hl => by
    rcases isDr_or h with e | ⟨h1, h2⟩
    · exact .inl e
    · refine .inr ⟨h1, O.ne d h1, ?_⟩
      rw [O.fix d h1 h2]
      exact clD O n _ (O.R.dr d h1) (by rw [List.length_dropLast]; omega)
theorem PlOk.cl (O : PlOk ks mk pl) {p : Path} (h : p ∈ ks) : Cl ks pl 7 p := .inr ⟨h, O.ne p h, O.clD 6 _ (O.dr p h) (isDr_len' O (O.dr p h))⟩
theorem PlOk.clD7 (O : PlOk ks mk pl) {d : Path} (h : isDr ks mk d = true) : Cl ks pl 7 d := cl_le (by decide) (O.clD 6 d h (isDr_len' O h))
theorem PlOk.injD (O : PlOk ks mk pl) : ∀ n d d', isDr ks mk d = true → isDr ks mk d' = true → d.length ≤ n → d'.length ≤ n → thenF pl n d = thenF pl n d' → d = d'
  | 0, d, d', _, _, h1, h2, _ => by rw [List.length_eq_zero_iff.mp (Nat.le_zero.mp h1), List.length_eq_zero_iff.mp (Nat.le_zero.mp h2)]
  | n + 1, d, d', hd, hd', h1, h2, e => by
    unfold thenF at e
    by_cases e1 : d = []
    · by_cases e2 : d' = []
      · rw [e1, e2]
      · rw [if_pos e1, if_neg e2] at e
        exact absurd e.symm (by simp)
    · by_cases e2 : d' = []
      · rw [if_neg e1, if_pos e2] at e
        exact absurd e (by simp)
      · rw [if_neg e1, if_neg e2] at e
        obtain ⟨k1, m1⟩ := (isDr_or hd).resolve_left e1
        obtain ⟨k2, m2⟩ := (isDr_or hd').resolve_left e2
        obtain ⟨e3, e4⟩ := List.append_inj' e rfl
        rw [O.fix d k1 m1, O.fix d' k2 m2] at e3
        have e5 := injD O n _ _ (O.R.dr d k1) (O.R.dr d' k2) (by rw [List.length_dropLast]; omega) (by rw [List.length_dropLast]; omega) e3
        refine O.inj d k1 d' k2 (path_eq (O.ne d k1) (O.ne d' k2) (by rw [O.fix d k1 m1, O.fix d' k2 m2, e5]) ?_)
        simpa using e4
theorem now_ks (O : PlOk ks mk pl) {p : Path} (h : p ∈ ks) : now pl p = thenF pl 6 (pl p).dropLast ++ [lst (pl p)] := by
  unfold now
  rw [thenF, if_neg (O.R.ne p h)]
theorem now_dr (O : PlOk ks mk pl) {d : Path} (h : isDr ks mk d = true) : now pl d = thenF pl 6 d := fuel (O.clD 6 d h (isDr_len' O h)) (by decide)
theorem PlOk.now_inj (O : PlOk ks mk pl) {p q : Path} (hp : p ∈ ks) (hq : q ∈ ks) (e : now pl p = now pl q) : p = q := by
  rw [now_ks O hp, now_ks O hq] at e
  obtain ⟨e3, e4⟩ := List.append_inj' e rfl
  have e5 := O.injD 6 _ _ (O.dr p hp) (O.dr q hq) (isDr_len' O (O.dr p hp)) (isDr_len' O (O.dr q hq)) e3
  exact O.inj p hp q hq (path_eq (O.ne p hp) (O.ne q hq) e5 (by simpa using e4))
theorem now_len (pl : Path → Path) (p : Path) : (now pl p).length ≤ 7 := thenF_len _ _ _
theorem now_nil (pl : Path → Path) : now pl [] = [] := rfl
/-- the place of a spot, now, is a thing's just where that spot is its own -/
theorem PlOk.now_at (O : PlOk ks mk pl) {q d : Path} {nm : Str} (hq : q ∈ ks) (hd : isDr ks mk d = true) (e : now pl q = now pl d ++ [nm]) : pl q = d ++ [nm] := by
  rw [now_ks O hq, now_dr O hd] at e
  obtain ⟨e3, e4⟩ := List.append_inj' e rfl
  have e5 := O.injD 6 _ _ (O.dr q hq) hd (isDr_len' O (O.dr q hq)) (isDr_len' O hd) e3
  have e6 : lst (pl q) = nm := by simpa using e4
  rw [← init_lst (O.ne q hq), e5, e6]
end
theorem mvP_snoc {P T X : Path} {l : Str} (h : X ++ [l] ≠ P) : mvP P T (X ++ [l]) = mvP P T X ++ [l] := by
  unfold mvP
  rcases Nat.lt_or_ge X.length P.length with hl | hl
  · have h1 : (X ++ [l]).take P.length = X ++ [l] := List.take_of_length_le (by rw [List.length_append, List.length_singleton]; omega)
    have h2 : X.take P.length = X := List.take_of_length_le (by omega)
    rw [h1, h2, if_neg h, if_neg fun e => by rw [e] at hl; exact Nat.lt_irrefl _ hl]
  · have h1 : (X ++ [l]).take P.length = X.take P.length := List.take_append_of_le_length hl
    have h2 : (X ++ [l]).drop P.length = X.drop P.length ++ [l] := List.drop_append_of_le_length hl
    rw [h1, h2]
    split
    · rw [List.append_assoc]
    · rfl
theorem mvP_self (P T : Path) : mvP P T P = T := by
  unfold mvP
  rw [List.take_length, if_pos rfl, List.drop_length, List.append_nil]
section
variable {ks : List Path} {mk : Path → Mark} {pl : Path → Path} {p d : Path} {nm : Str}
/-- nothing above a drawer to which p is not changes -/
theorem then_not (O : PlOk ks mk pl) (t : Path) : ∀ n e, isDr ks mk e = true → (mk p ≠ none ∨ e.length < p.length) → thenF (fput pl p t) n e = thenF pl n e
  | 0, _, _, _ => rfl
  | n + 1, e, he, hp => by
    unfold thenF
    by_cases e0 : e = []
    · rw [if_pos e0, if_pos e0]
    · obtain ⟨k1, m1⟩ := (isDr_or he).resolve_left e0
      have hne : e ≠ p := fun z => by
        rcases hp with h | h
        · exact h (z ▸ m1)
        · rw [z] at h; exact Nat.lt_irrefl _ h
      rw [if_neg e0, if_neg e0, fput_ne hne, O.fix e k1 m1]
      rw [then_not O t n _ (O.R.dr e k1) (hp.imp id fun h => by rw [List.length_dropLast]; omega)]
theorem PlOk.put (O : PlOk ks mk pl) (hp : p ∈ ks) (hd : isDr ks mk d = true) (hfix : mk p = none → d = p.dropLast) (free : ∀ q ∈ ks, pl q ≠ d ++ [nm]) : PlOk ks mk (fput pl p (d ++ [nm])) where
  R := O.R
  ne := fun q hq => by
    by_cases e : q = p
    · rw [e, fput_same]; simp
    · rw [fput_ne e]; exact O.ne q hq
  dr := fun q hq => by
    by_cases e : q = p
    · rw [e, fput_same, List.dropLast_concat]; exact hd
    · rw [fput_ne e]; exact O.dr q hq
  fix := fun q hq hm => by
    by_cases e : q = p
    · rw [e, fput_same, List.dropLast_concat]; exact hfix (e ▸ hm)
    · rw [fput_ne e]; exact O.fix q hq hm
  inj := fun q hq r hr e => by
    by_cases e1 : q = p
    · by_cases e2 : r = p
      · rw [e1, e2]
      · rw [e1, fput_same, fput_ne e2] at e
        exact absurd e.symm (free r hr)
    · by_cases e2 : r = p
      · rw [e2, fput_same, fput_ne e1] at e
        exact absurd e (free q hq)
      · rw [fput_ne e1, fput_ne e2] at e
        exact O.inj q hq r hr e
theorem dr_cond (O : PlOk ks mk pl) (hp : p ∈ ks) (hfix : mk p = none → d = p.dropLast) : mk p ≠ none ∨ d.length < p.length := by
  by_cases h : mk p = none
  · have := List.length_pos_iff.mpr (O.R.ne p hp)
    exact .inr (by rw [hfix h, List.length_dropLast]; omega)
  · exact .inl h
theorem step_then (O : PlOk ks mk pl) (hp : p ∈ ks) (hd : isDr ks mk d = true) (hfix : mk p = none → d = p.dropLast) : ∀ (n : Nat) (q : Path), n ≤ 7 → Cl ks pl n q → (q = p → ∀ m, n = m + 1 → Cl ks pl m d) → mvP (now pl p) (now pl d ++ [nm]) (thenF pl n q) = thenF (fput pl p (d ++ [nm])) n q
  | 0, q, _, _, _ => by
    show mvP _ _ [] = []
    unfold mvP
    rw [List.take_nil, if_neg]
    intro e
    rw [now_ks O hp] at e
    exact absurd e (by simp)
  | n + 1, q, hn, hc, hcd => by
    by_cases e0 : q = []
    · subst e0
      show mvP _ _ [] = []
      unfold mvP
      rw [List.take_nil, if_neg]
      intro e
      rw [now_ks O hp] at e
      exact absurd e (by simp)
    obtain ⟨hq, hne, hc'⟩ := hc.resolve_left e0
    by_cases e1 : q = p
    · subst e1
      have h1 : thenF pl (n + 1) q = now pl q := (fuel hc hn).symm
      rw [h1, mvP_self]
      rw [thenF, if_neg e0, fput_same, List.dropLast_concat, lst_snoc]
      have hcl := hcd rfl n rfl
      have h2 : now pl d = thenF pl n d := fuel hcl (by omega)
      rw [h2, then_not O _ n d hd (dr_cond O hq hfix)]
    · have h1 : thenF pl (n + 1) q = thenF pl n (pl q).dropLast ++ [lst (pl q)] := by rw [thenF, if_neg e0]
      have h2 : thenF pl (n + 1) q = now pl q := (fuel hc hn).symm
      have h3 : thenF pl n (pl q).dropLast ++ [lst (pl q)] ≠ now pl p := fun e => e1 (O.now_inj hq hp (by rw [← h2, h1, e]))
      rw [h1, mvP_snoc h3]
      rw [step_then O hp hd hfix n _ (by omega) hc' fun ep m em => ?_]
      · conv => rhs; rw [thenF, if_neg e0, fput_ne e1]
      · have hdq := O.dr q hq
        rw [ep] at hdq
        obtain ⟨_, hmn⟩ := (isDr_or hdq).resolve_left (O.R.ne p hp)
        subst em
        rw [ep] at hc'
        obtain ⟨_, _, h⟩ := hc'.resolve_left (O.R.ne p hp)
        rw [O.fix p hp hmn, ← hfix hmn] at h
        exact h
theorem PlOk.step (O : PlOk ks mk pl) (hp : p ∈ ks) (hd : isDr ks mk d = true) (hfix : mk p = none → d = p.dropLast) {q : Path} (hq : q ∈ ks) : mvP (now pl p) (now pl d ++ [nm]) (now pl q) = now (fput pl p (d ++ [nm])) q :=
  step_then O hp hd hfix 7 q (Nat.le_refl _) (O.cl hq) fun _ m em => by
    cases em
    exact O.clD 6 d hd (isDr_len' O hd)
/-- marks by a naming that tells apart -/
def mkOf (ks : List Path) (mk : Path → Mark) (nf : Path → Path) (x : Path) : Mark := match ks.find? (fun q => decide (nf q = x)) with
  | some q => mk q
  | none => none
theorem mkOf_at {nf : Path → Path} (hi : ∀ p ∈ ks, ∀ q ∈ ks, nf p = nf q → p = q) {q : Path} (hq : q ∈ ks) : mkOf ks mk nf (nf q) = mk q := by
  unfold mkOf
  cases h : ks.find? (fun r => decide (nf r = nf q)) with
  | none =>
    have := List.find?_eq_none.mp h q hq
    simp at this
  | some r =>
    have h1 := List.find?_some h
    have h2 := List.mem_of_find?_eq_some h
    rw [hi r h2 q hq (by simpa using h1)]
theorem nodup_mapi {nf : Path → Path} (hn : ks.Nodup) (hi : ∀ p ∈ ks, ∀ q ∈ ks, nf p = nf q → p = q) : (ks.map nf).Nodup := by
  refine List.pairwise_map.mpr (List.Pairwise.imp_of_mem ?_ hn)
  intro x y hx hy hne e
  exact hne (hi x hx y hy e)
theorem PlOk.mv (O : PlOk ks mk pl) {ks0 : List Path} (h0 : ∀ q, q ∈ ks0 ↔ q ∈ ks) (hn0 : ks0.Nodup) {nf : Path → Path} (hnf : ∀ q ∈ ks, nf q = now pl q) {mkc : Path → Mark} (hmk : ∀ q ∈ ks, mkc (nf q) = mk q) (hp : p ∈ ks) (hd : isDr ks mk d = true) (hfix : mk p = none → d = p.dropLast) (free : ∀ q ∈ ks, pl q ≠ d ++ [nm]) :
    MvOk false (ks0.map nf) mkc (now pl p) (now pl d ++ [nm]) (mkOf ks mk (now (fput pl p (d ++ [nm])))) := by
  have O' := O.put hp hd hfix free
  have mem : ∀ {x}, x ∈ ks0.map nf → ∃ q ∈ ks, x = now pl q := fun hx => by
    obtain ⟨q, hq, rfl⟩ := List.mem_map.mp hx
    exact ⟨q, (h0 q).mp hq, hnf q ((h0 q).mp hq)⟩
  have inm : ∀ {q}, q ∈ ks → now pl q ∈ ks0.map nf := fun hq => List.mem_map.mpr ⟨_, (h0 _).mpr hq, hnf _ hq⟩
  refine ⟨?_, ?_, ?_, by simp, ?_, inm hp, ?_, ?_, ?_, ?_, ?_⟩
  · rw [List.length_map]
    have := nodup_few hn0 fun q hq => (h0 q).mp hq
    have := O.R.few
    omega
  · intro x hx
    obtain ⟨q, hq, rfl⟩ := mem hx
    rw [now_ks O hq]
    simp
  · intro x hx
    obtain ⟨q, hq, rfl⟩ := mem hx
    have := now_len pl q
    omega
  · have := now_len pl d
    rw [List.length_append, List.length_singleton]
    omega
  · rw [List.dropLast_concat]
    rcases isDr_or hd with e | ⟨h1, h2⟩
    · rw [e]; rfl
    · unfold isDr
      have h3 := hmk d h1
      rw [hnf d h1, h2] at h3
      have h4 := inm h1
      simp [h3, h4]
  · intro hm
    have h3 := hmk p hp
    rw [hnf p hp, hm] at h3
    rw [List.dropLast_concat, now_ks O hp, List.dropLast_concat, O.fix p hp h3.symm, hfix h3.symm, now_dr O (O.R.dr p hp)]
  · intro x hx
    unfold thereM at hx
    split at hx
    · rename_i hin
      obtain ⟨q, hq, e⟩ := mem hin
      exact absurd (O.now_at hq hd e.symm) (free q hq)
    · cases hx
  · have e : (ks0.map nf).map (mvP (now pl p) (now pl d ++ [nm])) = ks0.map (now (fput pl p (d ++ [nm]))) := by
      rw [List.map_map]
      refine List.map_congr_left fun q hq => ?_
      have hq' := (h0 q).mp hq
      show mvP _ _ (nf q) = _
      rw [hnf q hq', O.step hp hd hfix hq']
    rw [e]
    exact nodup_mapi hn0 fun a ha b hb => O'.now_inj ((h0 a).mp ha) ((h0 b).mp hb)
  · intro x hx
    obtain ⟨q, hq, rfl⟩ := mem hx
    rw [O.step hp hd hfix hq, mkOf_at (fun a ha b hb => O'.now_inj ha hb) hq, ← hnf q hq, hmk q hq]
end
end R
/-! P4: chains and rings, plainly -/
namespace R
open PySem L2 Evl
/-- who stands behind whom: into the movers, no two behind one -/
structure AhI (mv : List Path) (ah : Path → Option Path) (n : Nat) : Prop where
  A : AhOk mv ah n
  r : ∀ p ∈ mv, ∀ q, ah p = some q → q ∈ mv
  i : ∀ p ∈ mv, ∀ q ∈ mv, ∀ x, ah p = some x → ah q = some x → p = q
def LinkA (ah : Path → Option Path) : List Path → Prop
  | [] => True
  | [_] => True
  | x :: y :: l => ah x = some y ∧ LinkA ah (y :: l)
section
variable {mv : List Path} {ah : Path → Option Path} {n : Nat}
theorem go_link {first : Path} : ∀ (n : Nat) (x : Path), EndsIn mv ah first n (ah x) → LinkA ah (x :: goF ah first n (ah x)) ∧ ∀ z, (x :: goF ah first n (ah x)).getLast? = some z → ah z = none ∨ ah z = some first
  | 0, x, h => ⟨trivial, fun z hz => by cases hz; exact h⟩
  | n + 1, x, h => by
    cases hc : ah x with
    | none => exact ⟨trivial, fun z hz => by cases hz; exact .inl hc⟩
    | some q =>
      rw [hc] at h
      by_cases hq : q = first
      · have : goF ah first (n + 1) (some q) = [] := by rw [goF, if_pos hq]
        rw [this]
        exact ⟨trivial, fun z hz => by cases hz; exact .inr (hq ▸ hc)⟩
      · have : goF ah first (n + 1) (some q) = q :: goF ah first n (ah q) := by rw [goF, if_neg hq]
        rw [this]
        rcases h with h | ⟨_, h⟩
        · exact absurd h hq
        · obtain ⟨h1, h2⟩ := go_link n q h
          exact ⟨⟨hc, h1⟩, fun z hz => h2 z (by rw [List.getLast?_cons_cons] at hz; exact hz)⟩
theorem go_nodup (I : AhI mv ah n) {first : Path} : ∀ (n : Nat) (s : List Path) (x : Path), s.Nodup → (∀ y ∈ s, y ∈ mv) → x ∈ s → (∀ y ∈ s, y = first ∨ ∃ z ∈ s, z ≠ x ∧ ah z = some y) → EndsIn mv ah first n (ah x) → (goF ah first n (ah x)).Nodup ∧ ∀ y ∈ goF ah first n (ah x), y ∉ s
  | 0, _, _, _, _, _, _, _ => ⟨List.nodup_nil, fun y hy => by cases hy⟩
  | n + 1, s, x, hn, hs, hx, hp, he => by
    cases hc : ah x with
    | none => exact ⟨List.nodup_nil, fun y hy => by cases hy⟩
    | some q =>
      rw [hc] at he
      by_cases hq : q = first
      · have : goF ah first (n + 1) (some q) = [] := by rw [goF, if_pos hq]
        rw [this]
        exact ⟨List.nodup_nil, fun y hy => by cases hy⟩
      · have hg : goF ah first (n + 1) (some q) = q :: goF ah first n (ah q) := by rw [goF, if_neg hq]
        obtain ⟨hqm, he⟩ := he.resolve_left hq
        have hqs : q ∉ s := fun h => by
          rcases hp q h with e | ⟨z, hz, hzx, hzq⟩
          · exact hq e
          · exact hzx (I.i z (hs z hz) x (hs x hx) q hzq hc)
        obtain ⟨h1, h2⟩ := go_nodup I n (s ++ [q]) q (by
          rw [List.nodup_append]
          exact ⟨hn, by simp, fun a ha b hb e => hqs (by rw [← List.mem_singleton.mp hb, ← e]; exact ha)⟩) (fun y hy => by
          rcases List.mem_append.mp hy with h | h
          · exact hs y h
          · rw [List.mem_singleton.mp h]; exact hqm) (by simp) (fun y hy => by
          rcases List.mem_append.mp hy with h | h
          · rcases hp y h with e | ⟨z, hz, _, hzy⟩
            · exact .inl e
            · exact .inr ⟨z, List.mem_append.mpr (.inl hz), fun e => hqs (e ▸ hz), hzy⟩
          · rw [List.mem_singleton.mp h]
            exact .inr ⟨x, List.mem_append.mpr (.inl hx), fun e => hqs (e ▸ hx), hc⟩) he
        rw [hg]
        refine ⟨List.nodup_cons.mpr ⟨fun h => h2 q h (by simp), h1⟩, fun y hy => ?_⟩
        rcases List.mem_cons.mp hy with e | h
        · rw [e]; exact hqs
        · exact fun hys => h2 y h (List.mem_append.mpr (.inl hys))
theorem along_nodup (I : AhI mv ah n) {p : Path} (hp : p ∈ mv) : (alongF ah n p).Nodup := by
  obtain ⟨h1, h2⟩ := go_nodup I n [p] p (by simp) (by simpa using hp) (by simp) (fun y hy => .inl (List.mem_singleton.mp hy)) (I.A.fin p hp)
  exact List.nodup_cons.mpr ⟨fun h => h2 p h (by simp), h1⟩
theorem along_link (I : AhI mv ah n) {p : Path} (hp : p ∈ mv) : LinkA ah (alongF ah n p) ∧ ∀ z, (alongF ah n p).getLast? = some z → ah z = none ∨ ah z = some p := go_link n p (I.A.fin p hp)
theorem link_pred {ah : Path → Option Path} : ∀ {x : Path} {l : List Path}, LinkA ah (x :: l) → ∀ y ∈ l, ∃ z ∈ x :: l, ah z = some y
  | x, [], _, y, hy => by cases hy
  | x, a :: l, h, y, hy => by
    rcases List.mem_cons.mp hy with e | hy
    · exact ⟨x, List.mem_cons_self .., by rw [e]; exact h.1⟩
    · obtain ⟨z, hz, e⟩ := link_pred h.2 y hy
      exact ⟨z, List.mem_cons_of_mem _ hz, e⟩
theorem link_succ {ah : Path → Option Path} : ∀ {x : Path} {l : List Path}, LinkA ah (x :: l) → ∀ y ∈ x :: l, (∃ z ∈ l, ah y = some z) ∨ (x :: l).getLast? = some y
  | x, [], _, y, hy => by rw [List.mem_singleton.mp hy]; exact .inr rfl
  | x, a :: l, h, y, hy => by
    rcases List.mem_cons.mp hy with e | hy
    · rw [e]; exact .inl ⟨a, List.mem_cons_self .., h.1⟩
    · rcases link_succ h.2 y hy with ⟨z, hz, e⟩ | e
      · exact .inl ⟨z, List.mem_cons_of_mem _ hz, e⟩
      · exact .inr (by rw [List.getLast?_cons_cons]; exact e)
/-- what was seen: with those behind and ahead -/
structure SeenOk (mv : List Path) (ah : Path → Option Path) (S : List Path) : Prop where
  sub : ∀ y ∈ S, y ∈ mv
  pred : ∀ x ∈ mv, ∀ y ∈ S, ah x = some y → x ∈ S
  succ : ∀ y ∈ S, ∀ z, ah y = some z → z ∈ S
theorem along_disj {S : List Path} (I : AhI mv ah n) (hS : SeenOk mv ah S) {p : Path} (hp : p ∈ mv) (hpS : p ∉ S) : ∀ y ∈ alongF ah n p, y ∉ S := by
  have key : ∀ (l : List Path) (x : Path), LinkA ah (x :: l) → x ∈ mv → x ∉ S → ∀ y ∈ x :: l, y ∉ S := by
    intro l
    induction l with
    | nil => intro x _ _ hx y hy; rw [List.mem_singleton.mp hy]; exact hx
    | cons a l ih =>
      intro x h hxm hx y hy
      rcases List.mem_cons.mp hy with e | hy
      · rw [e]; exact hx
      · exact ih a h.2 (I.r x hxm a h.1) (fun z => hx (hS.pred x hxm a z h.1)) y hy
  exact key _ p (along_link I hp).1 hp hpS
theorem along_in (I : AhI mv ah n) {p : Path} (hp : p ∈ mv) : ∀ y ∈ alongF ah n p, y ∈ mv := I.A.mem hp
/-- a chain, or a true ring, seen besides -/
theorem SeenOk.add {S : List Path} (I : AhI mv ah n) (hS : SeenOk mv ah S) {p : Path} (hp : p ∈ mv) (h : (∀ x ∈ mv, ah x ≠ some p) ∨ ∃ z ∈ alongF ah n p, ah z = some p) : SeenOk mv ah (S ++ alongF ah n p) where
  sub := fun y hy => (List.mem_append.mp hy).elim (hS.sub y) (along_in I hp y)
  pred := fun x hx y hy e => by
    rcases List.mem_append.mp hy with hy | hy
    · exact List.mem_append.mpr (.inl (hS.pred x hx y hy e))
    · refine List.mem_append.mpr (.inr ?_)
      rcases List.mem_cons.mp hy with ey | hy'
      · rw [ey] at e
        rcases h with h | ⟨z, hz, hzp⟩
        · exact absurd e (h x hx)
        · rw [I.i x hx z (along_in I hp z hz) p e hzp]; exact hz
      · obtain ⟨z, hz, e'⟩ := link_pred (along_link I hp).1 y hy'
        rw [I.i x hx z (along_in I hp z hz) y e e']
        exact hz
  succ := fun y hy z e => by
    rcases List.mem_append.mp hy with hy | hy
    · exact List.mem_append.mpr (.inl (hS.succ y hy z e))
    · refine List.mem_append.mpr (.inr ?_)
      rcases link_succ (along_link I hp).1 y hy with ⟨w, hw, e'⟩ | hl
      · rw [e] at e'
        cases e'
        exact List.mem_cons_of_mem _ hw
      · rcases (along_link I hp).2 y hl with h' | h'
        · rw [h'] at e; cases e
        · rw [h'] at e
          cases e
          exact List.mem_cons_self ..
theorem full {xs ys : List Path} (hx : xs.Nodup) (hy : ys.Nodup) (hs : ∀ x ∈ xs, x ∈ ys) (hl : ys.length ≤ xs.length) : ∀ y ∈ ys, y ∈ xs := fun y hyy => by
  by_cases h : y ∈ xs
  · exact h
  · exfalso
    have h1 : xs.length ≤ (ys.erase y).length := nodup_few hx fun x hx' => (List.mem_erase_of_ne fun e => h (by rw [← e]; exact hx')).mpr (hs x hx')
    have h2 : 0 < ys.length := List.length_pos_of_mem hyy
    rw [List.length_erase_of_mem hyy] at h1
    omega
/-- unseen things, none of whom is a first, all stand behind one -/
theorem no_none {S : List Path} (I : AhI mv ah n) (hS : SeenOk mv ah S) (hf : ∀ p ∈ mv, p ∉ S → ∃ x ∈ mv, ah x = some p) : ∀ p ∈ mv, p ∉ S → ah p ≠ none := by
  let U := mv.filter fun p => !decide (p ∈ S)
  have hU : ∀ p, p ∈ U ↔ p ∈ mv ∧ p ∉ S := fun p => by simp [U]
  have hUn : U.Nodup := I.A.nd.filter _
  let pf : Path → Path := fun y => ((mv.find? fun x => decide (ah x = some y))).getD []
  have hpf : ∀ y ∈ U, pf y ∈ U ∧ ah (pf y) = some y := fun y hy => by
    obtain ⟨h1, h2⟩ := (hU y).mp hy
    obtain ⟨x, hx, e⟩ := hf y h1 h2
    cases hfi : mv.find? (fun x => decide (ah x = some y)) with
    | none =>
      have := List.find?_eq_none.mp hfi x hx
      simp [e] at this
    | some z =>
      have hz : pf y = z := by show ((mv.find? fun x => decide (ah x = some y))).getD [] = z; rw [hfi]; rfl
      have hz1 := List.mem_of_find?_eq_some hfi
      have hz2 : ah z = some y := by simpa using List.find?_some hfi
      rw [hz]
      exact ⟨(hU z).mpr ⟨hz1, fun h => h2 (hS.succ z h y hz2)⟩, hz2⟩
  have hPn : (U.map pf).Nodup := by
    refine List.pairwise_map.mpr (List.Pairwise.imp_of_mem ?_ hUn)
    intro a b ha hb hne e
    have h1 := (hpf a ha).2
    have h2 := (hpf b hb).2
    rw [e, h2] at h1
    exact hne (Option.some.inj h1).symm
  have hall := full hPn hUn (fun x hx => by obtain ⟨y, hy, rfl⟩ := List.mem_map.mp hx; exact (hpf y hy).1) (by rw [List.length_map]; exact Nat.le_refl _)
  intro p hp hpS e
  obtain ⟨y, hy, hyp⟩ := List.mem_map.mp (hall p ((hU p).mpr ⟨hp, hpS⟩))
  have := (hpf y hy).2
  rw [hyp, e] at this
  cases this
/-- so an unseen one lies on a ring -/
theorem ring_of {S : List Path} (I : AhI mv ah n) (hS : SeenOk mv ah S) (hf : ∀ p ∈ mv, p ∉ S → ∃ x ∈ mv, ah x = some p) {p : Path} (hp : p ∈ mv) (hpS : p ∉ S) : ∀ z, (alongF ah n p).getLast? = some z → ah z = some p := fun z hz => by
  have hm : z ∈ alongF ah n p := List.mem_of_getLast? hz
  rcases (along_link I hp).2 z hz with h | h
  · exact absurd h (no_none I hS hf z (along_in I hp z hm) (along_disj I hS hp hpS z hm))
  · exact h
end
end R
/-! P5: the row is let by, and leads to the goal -/
namespace R
open PySem L2 Evl
def LegalTo (b : Bool) (ks0 : List Path) : (Path → Path) → (Path → Mark) → List (Path × Path) → (Path → Mark) → Prop
  | _, mk, [], mk' => mk' = mk
  | nf, mk, m :: ms, mk' => ∃ mk1, MvOk b (ks0.map nf) mk m.1 m.2 mk1 ∧ LegalTo b ks0 (fun q => mvP m.1 m.2 (nf q)) mk1 ms mk'
theorem LegalTo.legal {b : Bool} {ks0 : List Path} : ∀ {ms : List (Path × Path)} {nf : Path → Path} {mk mk' : Path → Mark}, LegalTo b ks0 nf mk ms mk' → Legal b ks0 nf mk ms
  | [], _, _, _, _ => trivial
  | _ :: _, _, _, _, ⟨mk1, h1, h2⟩ => ⟨mk1, h1, LegalTo.legal h2⟩
theorem LegalTo.snoc {b : Bool} {ks0 : List Path} {m : Path × Path} {mk2 : Path → Mark} : ∀ {ms : List (Path × Path)} {nf : Path → Path} {mk mk' : Path → Mark}, LegalTo b ks0 nf mk ms mk' → MvOk b (ks0.map (walkN ms nf)) mk' m.1 m.2 mk2 → LegalTo b ks0 nf mk (ms ++ [m]) mk2
  | [], nf, mk, mk', h, hm => by
    have e : mk' = mk := h
    subst e
    exact ⟨mk2, hm, rfl⟩
  | m0 :: ms, nf, mk, mk', ⟨mk1, h1, h2⟩, hm => ⟨mk1, h1, LegalTo.snoc (ms := ms) h2 hm⟩
abbrev plS (st : St2) : Path → Path := fun q => jn (st.1 q)
structure RowInv (ks : List Path) (mk : Path → Mark) (st : St2) : Prop where
  O : PlOk ks mk (plS st)
  L : ∃ mkc, LegalTo false (sortP ks) id mk st.2 mkc ∧ ∀ q ∈ ks, mkc (walkN st.2 id q) = mk q
  N : ∀ q ∈ ks, walkN st.2 id q = now (plS st) q
theorem plS_go (st : St2) (p d : Path) (nm : Str) : plS (goS st p d nm) = fput (plS st) p (d ++ [nm]) := by
  funext q
  show jn (fput st.1 p (d, nm) q) = fput (plS st) p (d ++ [nm]) q
  unfold fput
  split <;> rfl
theorem RowInv.go {ks : List Path} {mk : Path → Mark} {st : St2} {p d : Path} {nm : Str} (I : RowInv ks mk st) (hp : p ∈ ks) (hd : isDr ks mk d = true) (hfix : mk p = none → d = p.dropLast) (free : ∀ q ∈ ks, plS st q ≠ d ++ [nm]) : RowInv ks mk (goS st p d nm) := by
  have ksn : ks.Nodup := (List.pairwise_map.mp I.O.R.keys).imp fun hne e => hne (congrArg _ e)
  have O' := I.O.put hp hd hfix free
  obtain ⟨mkc, h1, h2⟩ := I.L
  have hw : ∀ q ∈ ks, walkN (goS st p d nm).2 id q = now (plS (goS st p d nm)) q := fun q hq => by
    rw [plS_go]
    show walkN (st.2 ++ [(now (plS st) p, now (plS st) d ++ [nm])]) id q = _
    rw [walkN_snoc, I.N q hq]
    exact I.O.step hp hd hfix hq
  refine ⟨by rw [plS_go]; exact O', ⟨_, LegalTo.snoc (m := (now (plS st) p, now (plS st) d ++ [nm])) h1 (I.O.mv (fun q => mem_sortP) (sortP_nodup ksn) I.N h2 hp hd hfix free), fun q hq => ?_⟩, hw⟩
  rw [hw q hq, plS_go]
  exact mkOf_at (fun a ha b hb => O'.now_inj ha hb) hq
theorem then_id {ks : List Path} {mk : Path → Mark} (R : RowsOk true ks mk) {pl : Path → Path} (h : ∀ q ∈ ks, pl q = q) : ∀ n d, isDr ks mk d = true → d.length ≤ n → thenF pl n d = d
  | 0, d, _, hl => (List.length_eq_zero_iff.mp (Nat.le_zero.mp hl)).symm
  | n + 1, d, hd, hl => by
    unfold thenF
    by_cases e : d = []
    · rw [if_pos e, e]
    · obtain ⟨h1, _⟩ := (isDr_or hd).resolve_left e
      rw [if_neg e, h d h1, then_id R h n _ (R.dr d h1) (by rw [List.length_dropLast]; omega), init_lst e]
theorem RowInv.init {ks : List Path} {mk : Path → Mark} (R : RowsOk true ks mk) : RowInv ks mk st0 := by
  have hq : ∀ q ∈ ks, plS st0 q = q := fun q hq => init_lst (R.ne q hq)
  have O : PlOk ks mk (plS st0) := ⟨R, fun p hp => by rw [hq p hp]; exact R.ne p hp, fun p hp => by rw [hq p hp]; exact R.dr p hp, fun p hp _ => by rw [hq p hp], fun p hp q hq' e => by rw [hq p hp, hq q hq'] at e; exact e⟩
  refine ⟨O, ⟨mk, rfl, fun q _ => rfl⟩, fun q hq' => ?_⟩
  show q = _
  rw [now_ks O hq', hq q hq', then_id R hq 6 _ (R.dr q hq') (isDr_len' O (R.dr q hq')), init_lst (R.ne q hq')]
def Pos (ks : List Path) (wf : Path → Path) (M : List Path) (bs : Path → Path) (st : St2) : Prop := ∀ q ∈ ks, plS st q = if q ∈ M then wf q else bs q
section
variable {ks : List Path} {mk : Path → Mark} {wk : List Path} {wf : Path → Path}
theorem homes_ok (W : LowW ks mk wk wf) (b : Bool) {bs : Path → Path} {M : List Path} (hM : ∀ y ∈ M, y ∈ movers wk wf) : ∀ (c : List Path) (st : St2), RowInv ks mk st → Pos ks wf M bs st → c.Nodup → (∀ x ∈ c, x ∈ movers wk wf ∧ x ∉ M) → LinkA (ahW b ks wk wf) c →
    (∀ q ∈ ks, ∀ y ∈ c, bs q = y → q = y) → (∀ z, c.getLast? = some z → ∀ q ∈ ks, q ∉ M → bs q ≠ wf z) → RowInv ks mk (c.reverse.foldl (homeS wf) st) ∧ Pos ks wf (c ++ M) bs (c.reverse.foldl (homeS wf) st)
  | [], st, I, hP, _, _, _, _, _ => ⟨I, hP⟩
  | x :: l, st, I, hP, hn, hm, hl, hb, hz => by
    obtain ⟨hx, hxM⟩ := hm x (List.mem_cons_self ..)
    obtain ⟨hxl, hln⟩ := List.nodup_cons.mp hn
    have hll : LinkA (ahW b ks wk wf) l := by
      cases l with
      | nil => trivial
      | cons y r => exact hl.2
    obtain ⟨I1, P1⟩ := homes_ok W b hM l st I hP hln (fun y hy => hm y (List.mem_cons_of_mem _ hy)) hll (fun q hq y hy => hb q hq y (List.mem_cons_of_mem _ hy)) (fun z hz' => hz z (by
      cases l with
      | nil => cases hz'
      | cons y r => rw [List.getLast?_cons_cons]; exact hz'))
    rw [List.reverse_cons, List.foldl_append]
    show RowInv ks mk (homeS wf (l.reverse.foldl (homeS wf) st) x) ∧ Pos ks wf (x :: l ++ M) bs (homeS wf (l.reverse.foldl (homeS wf) st) x)
    generalize l.reverse.foldl (homeS wf) st = s1 at I1 P1 ⊢
    have hxw := (movers_sub hx).1
    have hxk := W.sub x hxw
    have ht : (wf x).dropLast ++ [lst (wf x)] = wf x := init_lst (W.ne x hxw)
    have free : ∀ q ∈ ks, plS s1 q ≠ (wf x).dropLast ++ [lst (wf x)] := fun q hq e => by
      rw [ht, P1 q hq] at e
      by_cases hqm : q ∈ l ++ M
      · rw [if_pos hqm] at e
        have hqmv : q ∈ movers wk wf := (List.mem_append.mp hqm).elim (fun h => (hm q (List.mem_cons_of_mem _ h)).1) (hM q)
        have := W.winj hqmv hx e
        rw [this] at hqm
        exact (List.mem_append.mp hqm).elim hxl hxM
      · rw [if_neg hqm] at e
        have h1 : q ∉ l := fun h => hqm (List.mem_append.mpr (.inl h))
        have h2 : q ∉ M := fun h => hqm (List.mem_append.mpr (.inr h))
        cases l with
        | nil => exact hz x rfl q hq h2 e
        | cons y r =>
          have hy := (W.ahr b hx hl.1).2
          have := hb q hq y (List.mem_cons_of_mem _ (List.mem_cons_self ..)) (by rw [e, hy])
          exact h1 (by rw [this]; exact List.mem_cons_self ..)
    refine ⟨I1.go hxk (W.dr x hxw) (W.fix x hxw) free, fun q hq => ?_⟩
    show plS (goS s1 x (wf x).dropLast (lst (wf x))) q = _
    rw [plS_go, ht]
    by_cases e : q = x
    · rw [e, fput_same, if_pos (by simp)]
    · rw [fput_ne e, P1 q hq]
      by_cases h : q ∈ l ++ M
      · rw [if_pos h, if_pos (show q ∈ x :: l ++ M from List.mem_cons_of_mem _ h)]
      · rw [if_neg h, if_neg (show q ∉ x :: l ++ M from fun z => (List.mem_cons.mp z).elim e h)]
theorem LowW.ahi (W : LowW ks mk wk wf) (b : Bool) : AhI (movers wk wf) (ahW b ks wk wf) 20 := ⟨W.ahok b, fun p hp q h => (W.ahr b hp h).1, fun p hp q hq x h1 h2 => W.winj hp hq (by rw [← (W.ahr b hp h1).2, ← (W.ahr b hq h2).2])⟩
/-- nothing that stays lies where the last of a chain goes -/
theorem last_free (W : LowW ks mk wk wf) (b : Bool) {z : Path} (hz : z ∈ movers wk wf) (hn : ahW b ks wk wf z = none) : wf z ∉ ks := fun hk => by
  have hnm : wf z ∉ movers wk wf := fun h => by rw [W.ah b hz, if_pos h] at hn; cases hn
  have e1 : plc wk wf (wf z) = wf z := by
    unfold plc
    split
    · rename_i hw
      by_cases e : wf z = wf (wf z)
      · exact e.symm
      · exact absurd (List.mem_filter.mpr ⟨hw, by simpa using e⟩) hnm
    · rfl
  have := W.inj (wf z) hk z (W.sub z (movers_sub hz).1) (by rw [e1, W.plm hz])
  have h2 : wf z ∈ movers wk wf := by rw [this]; exact hz
  exact hnm h2
theorem chains_ok (W : LowW ks mk wk wf) (b : Bool) : ∀ (fs : List Path) (M : List Path) (st : St2), RowInv ks mk st → Pos ks wf M id st → SeenOk (movers wk wf) (ahW b ks wk wf) M → fs.Nodup → (∀ f ∈ fs, f ∈ movers wk wf ∧ f ∉ M ∧ ∀ x ∈ movers wk wf, ahW b ks wk wf x ≠ some f) →
    RowInv ks mk (chS wf (fs.map (alongF (ahW b ks wk wf) 20)) st) ∧ Pos ks wf (M ++ fs.flatMap (alongF (ahW b ks wk wf) 20)) id (chS wf (fs.map (alongF (ahW b ks wk wf) 20)) st) ∧ SeenOk (movers wk wf) (ahW b ks wk wf) (M ++ fs.flatMap (alongF (ahW b ks wk wf) 20))
  | [], M, st, I, hP, hS, _, _ => by
    rw [List.flatMap_nil, List.append_nil]
    exact ⟨I, hP, hS⟩
  | f :: fs, M, st, I, hP, hS, hn, hf => by
    obtain ⟨hfm, hfM, hff⟩ := hf f (List.mem_cons_self ..)
    have A := W.ahi b
    obtain ⟨hl, hz⟩ := along_link A hfm
    obtain ⟨hfn, hfsn⟩ := List.nodup_cons.mp hn
    obtain ⟨I1, P1⟩ := homes_ok W b hS.sub (alongF (ahW b ks wk wf) 20 f) st I hP (along_nodup A hfm) (fun x hx => ⟨along_in A hfm x hx, along_disj A hS hfm hfM x hx⟩) hl (fun q _ y _ e => e) (fun z hzl q hq hqM e => by
      have hzm := along_in A hfm z (List.mem_of_getLast? hzl)
      rcases hz z hzl with h | h
      · exact last_free W b hzm h (by rw [← e]; exact hq)
      · exact hff z hzm h)
    have hS1 := hS.add A hfm (.inl hff)
    have P1' : Pos ks wf (M ++ alongF (ahW b ks wk wf) 20 f) id ((alongF (ahW b ks wk wf) 20 f).reverse.foldl (homeS wf) st) := fun q hq => by
      rw [P1 q hq]
      have : (q ∈ alongF (ahW b ks wk wf) 20 f ++ M) ↔ (q ∈ M ++ alongF (ahW b ks wk wf) 20 f) := by simp [or_comm]
      by_cases h : q ∈ M ++ alongF (ahW b ks wk wf) 20 f
      · rw [if_pos h, if_pos (this.mpr h)]
      · rw [if_neg h, if_neg fun z => h (this.mp z)]
    obtain ⟨h1, h2, h3⟩ := chains_ok W b fs _ _ I1 P1' hS1 hfsn (fun g hg => by
      obtain ⟨g1, g2, g3⟩ := hf g (List.mem_cons_of_mem _ hg)
      refine ⟨g1, fun h => ?_, g3⟩
      rcases List.mem_append.mp h with h | h
      · exact g2 h
      · rcases List.mem_cons.mp h with e | h'
        · exact hfn (e ▸ hg)
        · obtain ⟨z, hz', e⟩ := link_pred hl g h'
          exact g3 z (along_in A hfm z hz') e)
    rw [List.flatMap_cons, ← List.append_assoc]
    exact ⟨h1, h2, h3⟩
theorem rings_ok (W : LowW ks mk wk wf) (b : Bool) : ∀ (ps seen : List Path) (st st' : St2), (∀ p ∈ ps, p ∈ movers wk wf) → RowInv ks mk st → Pos ks wf seen id st → SeenOk (movers wk wf) (ahW b ks wk wf) seen → (∀ p ∈ movers wk wf, p ∉ seen → ∃ x ∈ movers wk wf, ahW b ks wk wf x = some p) →
    RingsRun true (sortP ks) wf (ringsF (ahW b ks wk wf) 20 ps seen) st st' → ∃ S, RowInv ks mk st' ∧ Pos ks wf S id st' ∧ (∀ y ∈ S, y ∈ movers wk wf) ∧ (∀ y ∈ seen, y ∈ S) ∧ ∀ p ∈ ps, p ∈ S
  | [], seen, st, st', _, I, hP, hS, _, h => by
    unfold ringsF at h
    cases h
    exact ⟨seen, I, hP, hS.sub, fun y hy => hy, fun p hp => by cases hp⟩
  | p :: ps, seen, st, st', hm, I, hP, hS, hf, h => by
    unfold ringsF at h
    by_cases hps : p ∈ seen
    · rw [if_pos hps] at h
      obtain ⟨S, h1, h2, h3, h4, h5⟩ := rings_ok W b ps seen st st' (fun q hq => hm q (List.mem_cons_of_mem _ hq)) I hP hS hf h
      exact ⟨S, h1, h2, h3, h4, fun q hq => (List.mem_cons.mp hq).elim (fun e => e ▸ h4 p hps) (h5 q)⟩
    · rw [if_neg hps] at h
      have hp := hm p (List.mem_cons_self ..)
      have A := W.ahi b
      have hpk := W.sub p (movers_sub hp).1
      obtain ⟨hl, hz⟩ := along_link A hp
      have hring := ring_of A hS hf hp hps
      have hal : alongF (ahW b ks wk wf) 20 p = p :: goF (ahW b ks wk wf) p 20 (ahW b ks wk wf p) := rfl
      rw [hal] at h
      cases h with
      | cons hna hrun =>
      rename_i nm
      -- aside
      have hjd : ((st.1 p).1 : Path) = (plS st p).dropLast := (jn_drop _).symm
      have free : ∀ q ∈ ks, plS st q ≠ (st.1 p).1 ++ [nm] := fun q hq e => by
        have h1 : (st.1 q).1 = (st.1 p).1 := by
          have := congrArg List.dropLast e
          rw [List.dropLast_concat] at this
          rw [← this]
          exact (jn_drop _).symm
        have h2 : (st.1 q).2 = nm := by
          have := congrArg lst e
          rw [lst_snoc] at this
          rw [← this]
          exact (jn_lst _).symm
        refine hna.free q (mem_sortP.mpr hq) h1 ?_
        rw [h2]
        exact hna.lo
      have I1 : RowInv ks mk (goS st p (st.1 p).1 nm) := I.go hpk (by rw [hjd]; exact I.O.dr p hpk) (fun hmn => by rw [hjd]; exact I.O.fix p hpk hmn) free
      have P1 : Pos ks wf seen (fput id p ((st.1 p).1 ++ [nm])) (goS st p (st.1 p).1 nm) := fun q hq => by
        rw [plS_go]
        by_cases e : q = p
        · rw [e, fput_same, if_neg hps, fput_same]
        · rw [fput_ne e, fput_ne e]; exact hP q hq
      have pp : plS st p = p := by rw [hP p hpk, if_neg hps]; rfl
      obtain ⟨I2, P2⟩ := homes_ok W b hS.sub (alongF (ahW b ks wk wf) 20 p) _ I1 P1 (along_nodup A hp) (fun x hx => ⟨along_in A hp x hx, along_disj A hS hp hps x hx⟩) hl (fun q hq y hy e => by
        by_cases eq : q = p
        · rw [eq, fput_same] at e
          have hym := along_in A hp y hy
          have hyk := W.sub y (movers_sub hym).1
          have hys := along_disj A hS hp hps y hy
          have : plS st y = y := by rw [hP y hyk, if_neg hys]; rfl
          exact absurd (by rw [this, e]) (free y hyk)
        · rw [fput_ne eq] at e; exact e) (fun z hzl q hq hqs e => by
        have hwz := (W.ahr b (along_in A hp z (List.mem_of_getLast? hzl)) (hring z hzl)).2
        by_cases eq : q = p
        · rw [eq, fput_same, ← hwz] at e
          exact free p hpk (by rw [pp, e])
        · rw [fput_ne eq, ← hwz] at e
          exact eq e)
      have hlast : ∃ z ∈ alongF (ahW b ks wk wf) 20 p, ahW b ks wk wf z = some p := by
        have hne : alongF (ahW b ks wk wf) 20 p ≠ [] := by rw [hal]; simp
        have e := List.getLast?_eq_some_getLast hne
        exact ⟨_, List.getLast_mem hne, hring _ e⟩
      have hS1 := hS.add A hp (.inr hlast)
      have P2' : Pos ks wf (seen ++ alongF (ahW b ks wk wf) 20 p) id (roundS wf st (p :: goF (ahW b ks wk wf) p 20 (ahW b ks wk wf p)) nm) := fun q hq => by
        have e0 := P2 q hq
        have : (q ∈ alongF (ahW b ks wk wf) 20 p ++ seen) ↔ (q ∈ seen ++ alongF (ahW b ks wk wf) 20 p) := by simp [or_comm]
        show plS _ q = _
        refine e0.trans ?_
        by_cases h : q ∈ seen ++ alongF (ahW b ks wk wf) 20 p
        · rw [if_pos h, if_pos (this.mpr h)]
        · rw [if_neg h, if_neg fun z => h (this.mp z)]
          have hqp : q ≠ p := fun e => h (List.mem_append.mpr (.inr (e ▸ List.mem_cons_self ..)))
          rw [fput_ne hqp]
      obtain ⟨S, h1, h2, h3, h4, h5⟩ := rings_ok W b ps _ _ st' (fun q hq => hm q (List.mem_cons_of_mem _ hq)) I2 P2' hS1 (fun x hx hxs => hf x hx fun z => hxs (List.mem_append.mpr (.inl z))) hrun
      exact ⟨S, h1, h2, h3, fun y hy => h4 y (List.mem_append.mpr (.inl hy)), fun q hq => (List.mem_cons.mp hq).elim (fun e => e ▸ h4 p (List.mem_append.mpr (.inr (List.mem_cons_self ..)))) (h5 q)⟩
end
end R
/-! P6: two halls are told alike -/
namespace R
open PySem L2 Evl
theorem then_congr {ks : List Path} {pl pl' : Path → Path} (h : ∀ q ∈ ks, pl q = pl' q) : ∀ {n p}, Cl ks pl n p → thenF pl n p = thenF pl' n p
  | 0, _, _ => rfl
  | n + 1, p, c => by
    unfold thenF
    by_cases e : p = []
    · rw [if_pos e, if_pos e]
    · obtain ⟨h1, _, h3⟩ := c.resolve_left e
      rw [if_neg e, if_neg e, then_congr h h3, h p h1]
theorem rings_len {b : Bool} {ks : List Path} {wf : Path → Path} {rs : List (List Path)} {st st' : St2} (h : RingsRun b ks wf rs st st') : st'.2.length = st.2.length + (rs.map fun r => r.length + 1).sum := by
  induction h with
  | nil => simp
  | cons h1 _ ih =>
    rw [ih, round_len, List.map_cons, List.sum_cons]
    omega
theorem ch_len (wf : Path → Path) : ∀ (cs : List (List Path)) (st : St2), (chS wf cs st).2.length = st.2.length + (cs.map List.length).sum
  | [], st => by simp [chS]
  | c :: cs, st => by
    show (chS wf cs (c.reverse.foldl (homeS wf) st)).2.length = _
    rw [ch_len wf cs, homes_len, List.length_reverse, List.map_cons, List.sum_cons]
    omega
section
variable {ks : List Path} {mk : Path → Mark} {wk : List Path} {wf : Path → Path}
theorem LowW.po (W : LowW ks mk wk wf) : PlOk ks mk (plc wk wf) where
  R := W.R
  ne := fun p hp => W.good.pne hp
  dr := fun p hp => W.good.pdr hp
  fix := fun p hp hm => by
    unfold plc
    split
    · rename_i h; exact W.fix p h hm
    · rfl
  inj := W.inj
theorem plc_stay {q : Path} (h : q ∉ movers wk wf) : plc wk wf q = q := by
  unfold plc
  split
  · rename_i hw
    by_cases e : q = wf q
    · exact e.symm
    · exact absurd (List.mem_filter.mpr ⟨hw, by simpa using e⟩) h
  · rfl
theorem first_ok {mv : List Path} {ah : Path → Option Path} {f : Path} : f ∈ firstsM mv ah ↔ f ∈ mv ∧ ∀ x ∈ mv, ah x ≠ some f := by
  unfold firstsM
  rw [List.mem_filter, mem_sortP]
  simp
theorem LowW.row (W : LowW ks mk wk wf) {ms : List (Path × Path)} (h : RowOf true ks wk wf 20 ms) : Legal false (sortP ks) id mk ms ∧ ∀ p ∈ ks, walkN ms id p = thenP wk wf p := by
  obtain ⟨spf, hr⟩ := h
  have I0 := RowInv.init W.R
  have P0 : Pos ks wf [] id st0 := fun q hq => by
    rw [if_neg (by simp)]
    exact init_lst (W.R.ne q hq)
  have S0 : SeenOk (movers wk wf) (ahW true ks wk wf) [] := { sub := by simp, pred := by simp, succ := by simp }
  obtain ⟨I1, P1, S1⟩ := chains_ok W true (firstsM (movers wk wf) (ahW true ks wk wf)) [] st0 I0 P0 S0 ((sortP_nodup (W.ahok true).nd).filter _) fun f hf => ⟨(first_ok.mp hf).1, by simp, (first_ok.mp hf).2⟩
  rw [List.nil_append] at P1 S1
  obtain ⟨S, I2, P2, h1, _, h3⟩ := rings_ok W true (sortP (movers wk wf)) _ _ (spf, ms) (fun p hp => mem_sortP.mp hp) I1 P1 S1 (fun p hp hps => by
    by_cases hx : ∃ x ∈ movers wk wf, ahW true ks wk wf x = some p
    · exact hx
    · exfalso
      refine hps (List.mem_flatMap.mpr ⟨p, first_ok.mpr ⟨hp, fun x hxm e => hx ⟨x, hxm, e⟩⟩, List.mem_cons_self ..⟩)) hr
  have hpl : ∀ q ∈ ks, plS (spf, ms) q = plc wk wf q := fun q hq => by
    rw [P2 q hq]
    by_cases hqS : q ∈ S
    · rw [if_pos hqS, W.plm (h1 q hqS)]
    · rw [if_neg hqS, plc_stay fun hm => hqS (h3 q (mem_sortP.mpr hm))]
      rfl
  obtain ⟨mkc, L1, _⟩ := I2.L
  refine ⟨L1.legal, fun p hp => ?_⟩
  rw [I2.N p hp]
  exact then_congr hpl (I2.O.cl hp)
theorem LowW.ahE (W : LowW ks mk wk wf) : ∀ p ∈ movers wk wf, ahW false ks wk wf p = ahW true ks wk wf p := fun p hp => by rw [W.ah false hp, W.ah true hp]
theorem LowW.alike (W : LowW ks mk wk wf) : AlikeT ks mk wk wf 20 where
  g := W.good
  wf0 := fun b => W.wfH b W.ksn fun _ => Iff.rfl
  wf1 := W.wfH false (sortP_nodup W.ksn) fun _ => mem_sortP
  no := W.no
  inj := fun p hp q hq e => W.po.now_inj hp hq e
  ah := W.ahok
  ri := rings_congr W.ahE (W.ahok false)
  ch := chains_congr W.ahE (W.ahok false)
  len := fun ms ms' ⟨_, h1⟩ ⟨_, h2⟩ => by
    have l1 := rings_len h1
    have l2 := rings_len h2
    rw [ch_len] at l1 l2
    rw [rings_congr W.ahE (W.ahok false), chains_congr W.ahE (W.ahok false), ← l1] at l2
    exact l2
  row := fun ms h => W.row h
end
theorem plain_alike (ks : List Path) (mk : Path → Mark) (wk wk' : List Path) (wf : Path → Path) (R : RowsOk true ks mk) (W : WishOk (ks.map smallP) (smallMk ks mk) wk wf) (hn : ∀ p ∈ wk, ∀ n ∈ wf p, okS n = true) (hp : wk'.Perm wk) : ∃ n, AlikeT (ks.map smallP) (smallMk ks mk) wk' (lowW wf) n :=
  ⟨20, (lowW_of (rows_small R) (fun q hq => by
    obtain ⟨p, hp, rfl⟩ := List.mem_map.mp hq
    exact low_small (R.ok p hp)) W hn hp).alike⟩
end R
/-! P7: the third part: the wishes are good ones -/
namespace R
open PySem L2 Evl
theorem asF_at : ∀ {prs : List (Path × Path)}, (prs.map (·.1)).Nodup → ∀ m ∈ prs, asF prs m.1 = m.2
  | [], _, _, h => by cases h
  | m0 :: prs, hn, m, h => by
    rw [List.map_cons] at hn
    obtain ⟨h1, h2⟩ := List.nodup_cons.mp hn
    unfold asF
    by_cases e : m0.1 = m.1
    · rw [List.find?_cons_of_pos (by simpa using e)]
      rcases List.mem_cons.mp h with rfl | h
      · rfl
      · exact absurd (List.mem_map.mpr ⟨m, h, e.symm⟩) h1
    · rw [List.find?_cons_of_neg (by simpa using e)]
      rcases List.mem_cons.mp h with rfl | h
      · exact absurd rfl e
      · exact asF_at h2 m h
theorem RowsOk.nd {ks : List Path} {mk : Path → Mark} (R : RowsOk true ks mk) : ks.Nodup := (List.pairwise_map.mp R.keys).imp fun hne e => hne (congrArg _ e)
theorem RowsOk.wfH {ks : List Path} {mk : Path → Mark} (R : RowsOk true ks mk) (b : Bool) : WfH b ks mk where
  ne := R.ne
  dr := R.dr
  no := fun i p hi => by
    unfold thereM
    rw [if_neg (nodup_take_not R.nd hi)]
    split
    · refine find_not fun q hq => ?_
      by_cases h : q.dropLast = p.dropLast ∧ low (lst q) = low (lst p)
      · exfalso
        have hqk := List.mem_of_mem_take hq
        have hpk := List.mem_of_getElem? hi
        have : q = p := R.inj hqk hpk (by unfold keyB hold; simp only [if_true]; rw [h.1, h.2])
        exact nodup_take_not R.nd hi (this ▸ hq)
      · rcases Classical.not_and_iff_not_or_not.mp h with h | h <;> simp [h]
    · rfl
  few := Nat.le_trans R.few (by decide)
theorem third_good {ks : List Path} {mk : Path → Mark} {prs : List (Path × Path)} (R : RowsOk true ks mk) (T : ThirdOk ks prs) : GoodW ks mk (prs.map (·.1)) (asF prs) := by
  have hn := T.sub.nodup R.nd
  have key : ∀ p ∈ prs.map (·.1), p ∈ ks ∧ ∃ n, asF prs p = p.dropLast ++ [low n] := fun p hp => by
    obtain ⟨m, hm, rfl⟩ := List.mem_map.mp hp
    obtain ⟨n, _, e⟩ := T.to m hm
    exact ⟨T.sub.subset hp, n, by rw [asF_at hn m hm, e]⟩
  exact { few := Nat.le_trans R.few (by decide), kne := R.ne, len := R.len, kdr := R.dr, one := hn, sub := fun p hp => (key p hp).1
          ne := fun p hp => by obtain ⟨_, n, e⟩ := key p hp; rw [e]; simp
          wlen := fun p hp => by
            obtain ⟨hk, n, e⟩ := key p hp
            have h1 := R.len p hk
            have h2 := List.length_pos_iff.mpr (R.ne p hk)
            rw [e, List.length_append, List.length_dropLast, List.length_singleton]
            omega
          dr := fun p hp => by obtain ⟨hk, n, e⟩ := key p hp; rw [e, List.dropLast_concat]; exact R.dr p hk
          fix := fun p hp _ => by obtain ⟨hk, n, e⟩ := key p hp; rw [e, List.dropLast_concat] }
theorem third_wD {prs : List (Path × Path)} (hn : (prs.map (·.1)).Nodup) : wD (prs.map (·.1)) (asF prs) = prs.map pairD := by
  unfold wD
  rw [List.map_map]
  refine List.map_congr_left fun m hm => ?_
  show pr (pk m.1) (pk (asF prs m.1)) = pr (pk m.1) (pk m.2)
  rw [asF_at hn m hm]
def sprs (prs : List (Path × Path)) : List (Path × Path) := prs.map fun m => (smallP m.1, smallP m.2)
theorem sprs_fst (prs : List (Path × Path)) : (sprs prs).map (·.1) = prs.map fun m => smallP m.1 := by unfold sprs; rw [List.map_map]; rfl
theorem third_small {ks : List Path} {prs : List (Path × Path)} (T : ThirdOk ks prs) : ThirdOk (ks.map smallP) (sprs prs) where
  sub := by
    rw [sprs_fst]
    have := T.sub.map smallP
    rw [List.map_map] at this
    exact this
  to := fun m' hm' => by
    obtain ⟨m, hm, rfl⟩ := List.mem_map.mp hm'
    obtain ⟨n, hn, e⟩ := T.to m hm
    refine ⟨low n, okS_low hn, ?_⟩
    show smallP m.2 = (smallP m.1).dropLast ++ [low (low n)]
    rw [e, small_snoc, small_drop]
end R
/-! P8: the order of drawn things: whole, and the same both ways only of one -/
namespace R
open PySem PySem.W L2 Evl
def ltD (a b : D) : Bool := PySem.W.dataLt a.data b.data
theorem ltD_irr (a : D) : ltD a a = false := PyProof.Rows.lex_irrefl _
theorem ltD_tr {a b c : D} (h : ltD a b = true) (h' : ltD b c = true) : ltD a c = true := PyProof.Rows.lex_trans _ _ _ h h'
theorem ltD_neg {a b c : D} (h : ltD a c = true) : ltD a b = true ∨ ltD b c = true := PyProof.Rows.lex_negTrans _ _ _ h
theorem ltD_as {a b : D} (h : ltD a b = true) : ltD b a = false := by
  cases e : ltD b a with
  | false => rfl
  | true => have := ltD_tr h e; rw [ltD_irr] at this; cases this
theorem ltD_eq {a b : D} (ha : alike a.data b.data = true) (h : ltD a b = false) (h' : ltD b a = false) : a = b := by
  have e : keyToks a.data = keyToks b.data := PyProof.Rows.lex_total _ _ h h'
  cases q : PyData.eqv a.data b.data with
  | true => rw [eqv_dec] at q; exact of_decide_eq_true q
  | false =>
    have h1 := (toks_eqv _ _ ha).2 q [] [Sum.inl 0]
    rw [e, PyProof.Rows.lex_irrefl, lex_pre] at h1
    cases h1
theorem alike_pair (m m' : Path × Path) : alike (pairD m).data (pairD m').data = true := (sortOk_pair [m, m']).alike _ (List.mem_map.mpr ⟨_, List.mem_map.mpr ⟨m, by simp, rfl⟩, rfl⟩) _ (List.mem_map.mpr ⟨_, List.mem_map.mpr ⟨m', by simp, rfl⟩, rfl⟩)
theorem alike_tup {xs ys : List PyData} (h : alike (.tuple xs) (.tuple ys) = true) : alikeAll xs ys = true := by
  rw [alike] at h; exact h
theorem alike_pk (p q : Path) : alike (pk p).data (pk q).data = true := by
  have h : alike (.tuple [(pk p).data, (pk p).data]) (.tuple [(pk q).data, (pk q).data]) = true := alike_pair (p, p) (q, q)
  have h := alike_tup h
  rw [alikeAll, Bool.and_eq_true] at h
  exact h.1
theorem leD_lt (a b : D) : leD a b = !ltD b a := rfl
theorem lePr_tr (a b c : Path × Path) (h : lePr a b = true) (h' : lePr b c = true) : lePr a c = true := by
  unfold lePr at *
  rw [leD_lt] at *
  cases e : ltD (pairD c) (pairD a) with
  | false => rfl
  | true => rcases ltD_neg (b := pairD b) e with e | e <;> simp [e] at h h'
theorem lePr_tot (a b : Path × Path) : (lePr a b || lePr b a) = true := by
  unfold lePr
  rw [leD_lt, leD_lt]
  cases e : ltD (pairD b) (pairD a) with
  | false => rfl
  | true => rw [ltD_as e]; rfl
theorem pk_inj' {p q : Path} (h : pk p = pk q) : p = q := eP.inj _ _ h
theorem lePr_as {a b : Path × Path} (h : lePr a b = true) (h' : lePr b a = true) : a = b := by
  unfold lePr at *
  rw [leD_lt] at *
  have e := ltD_eq (alike_pair a b) (by simpa using h') (by simpa using h)
  simp only [pairD, pr, NestedKey.tup.injEq, List.cons.injEq, and_true] at e
  exact Prod.ext (pk_inj' e.1) (pk_inj' e.2)
theorem sort_eq {xs ys : List (Path × Path)} (h : xs.Perm ys) : xs.mergeSort lePr = ys.mergeSort lePr :=
  List.Perm.eq_of_pairwise (le := fun a b => lePr a b = true) (fun _ _ _ _ h h' => lePr_as h h') (List.pairwise_mergeSort lePr_tr lePr_tot xs) (List.pairwise_mergeSort lePr_tr lePr_tot ys) (((List.mergeSort_perm xs _).trans h).trans (List.mergeSort_perm ys _).symm)
/-- turned: the less one first -/
def tn (m : Path × Path) : Path × Path := (minP m.1 m.2, maxP m.1 m.2)
theorem tn_comm (p q : Path) : tn (p, q) = tn (q, p) := by
  show (minP p q, maxP p q) = (minP q p, maxP q p)
  unfold minP maxP
  show (if ltD (pk q) (pk p) = true then q else p, if ltD (pk p) (pk q) = true then q else p) = (if ltD (pk p) (pk q) = true then p else q, if ltD (pk q) (pk p) = true then p else q)
  cases e1 : ltD (pk p) (pk q) with
  | true => rw [ltD_as e1]; rfl
  | false =>
    cases e2 : ltD (pk q) (pk p) with
    | true => rfl
    | false => rw [pk_inj' (ltD_eq (alike_pk p q) e1 e2)]
end R
/-! P9: the meetings of two halls are the same -/
namespace R
open PySem L2 Evl
section
variable {α β : Type}
/-- all pairs of a list, each once -/
def two (h : α → α → List β) : List α → List β
  | [] => []
  | x :: r => r.flatMap (h x) ++ two h r
theorem two_perm {h : α → α → List β} (hs : ∀ x y, h x y = h y x) {xs ys : List α} (p : xs.Perm ys) : (two h xs).Perm (two h ys) := by
  induction p with
  | nil => exact .refl _
  | cons x p ih => exact List.Perm.append (List.Perm.flatMap_right _ p) ih
  | swap x y l =>
    show ((x :: l).flatMap (h y) ++ (l.flatMap (h x) ++ two h l)).Perm ((y :: l).flatMap (h x) ++ (l.flatMap (h y) ++ two h l))
    rw [List.flatMap_cons, List.flatMap_cons, hs y x, List.append_assoc, List.append_assoc]
    refine List.Perm.append (.refl _) ?_
    rw [← List.append_assoc, ← List.append_assoc]
    exact List.Perm.append List.perm_append_comm (.refl _)
  | trans _ _ h1 h2 => exact h1.trans h2
theorem two_map {γ : Type} (h : β → β → List γ) (f : α → β) : ∀ xs : List α, two h (xs.map f) = two (fun x y => h (f x) (f y)) xs
  | [] => rfl
  | x :: r => by
    show (r.map f).flatMap (h (f x)) ++ two h (r.map f) = _
    rw [two_map h f r, List.flatMap_map]
    rfl
theorem two_congr {h h' : α → α → List β} : ∀ {xs : List α}, (∀ x ∈ xs, ∀ y ∈ xs, h x y = h' x y) → two h xs = two h' xs
  | [], _ => rfl
  | x :: r, e => by
    unfold two
    rw [two_congr (xs := r) fun a ha b hb => e a (List.mem_cons_of_mem _ ha) b (List.mem_cons_of_mem _ hb)]
    rw [List.flatMap_def, List.flatMap_def, List.map_congr_left fun y hy => e x (List.mem_cons_self ..) y (List.mem_cons_of_mem _ hy)]
theorem flat_ins {F G : α → List β} {A : List β} {k0 : α} : ∀ {gk : List α}, gk.Nodup → k0 ∈ gk → (∀ k, k ≠ k0 → F k = G k) → F k0 = A ++ G k0 → (gk.flatMap F).Perm (A ++ gk.flatMap G)
  | [], _, h, _, _ => by cases h
  | k :: gk, hn, hm, h1, h2 => by
    obtain ⟨hk, hn'⟩ := List.nodup_cons.mp hn
    rw [List.flatMap_cons, List.flatMap_cons]
    by_cases e : k = k0
    · subst e
      rw [h2, List.append_assoc]
      have : gk.flatMap F = gk.flatMap G := by
        rw [List.flatMap_def, List.flatMap_def, List.map_congr_left fun y hy => h1 y fun z => hk (z ▸ hy)]
      rw [this]
    · rw [h1 k e]
      refine (List.Perm.append (.refl _) (flat_ins hn' ((List.mem_cons.mp hm).resolve_left fun z => e z.symm) h1 h2)).trans ?_
      rw [← List.append_assoc, ← List.append_assoc]
      exact List.Perm.append List.perm_append_comm (.refl _)
end
theorem range_flat {β : Type} (f : Nat → List β) (n : Nat) : (List.range (n + 1)).flatMap f = f 0 ++ (List.range n).flatMap fun j => f (j + 1) := by
  rw [List.range_succ_eq_map, List.flatMap_cons, List.flatMap_map]
theorem pairsK_two (pl : Path → Path) : ∀ xs : List Path, pairsK pl xs xs.length = two (fun x o => [(x, o, pl x)]) xs
  | [] => rfl
  | x :: r => by
    unfold pairsK
    rw [List.length_cons, range_flat]
    show (r.map fun o => (x, o, pl x)) ++ _ = r.flatMap (fun o => [(x, o, pl x)]) ++ two _ r
    rw [← pairsK_two pl r]
    congr 1
    induction r with
    | nil => rfl
    | cons y r ih => rw [List.map_cons, List.flatMap_cons]; simp; exact ih
theorem two_mapo {α β γ : Type} (g : β → γ) (h : α → α → List β) : ∀ xs : List α, (two h xs).map g = two (fun x y => (h x y).map g) xs
  | [] => rfl
  | x :: r => by
    show (r.flatMap (h x) ++ two h r).map g = _
    rw [List.map_append, two_mapo g h r, List.map_flatMap]
    rfl
def tnS (x o : Path) : Path × Path := tn (smallP x, smallP o)
def tm (m : Meet) : Path × Path := tnS m.1 m.2.1
def hS (b : Bool) (pl : Path → Path) (x o : Path) : List (Path × Path) := if spotOf b pl x = spotOf b pl o then [tnS x o] else []
theorem hS_comm (b : Bool) (pl : Path → Path) (x o : Path) : hS b pl x o = hS b pl o x := by
  unfold hS tnS
  rw [tn_comm]
  by_cases h : spotOf b pl x = spotOf b pl o
  · rw [if_pos h, if_pos h.symm]
  · rw [if_neg h, if_neg fun z => h z.symm]
theorem filt_flat (b : Bool) (pl : Path → Path) (x : Path) : ∀ r : List Path, (r.filter fun p => decide (spotOf b pl p = spotOf b pl x)).flatMap (fun o => [tnS x o]) = r.flatMap (hS b pl x)
  | [] => rfl
  | y :: r => by
    rw [List.flatMap_cons]
    by_cases h : spotOf b pl y = spotOf b pl x
    · rw [List.filter_cons_of_pos (by simpa using h), List.flatMap_cons, filt_flat b pl x r]
      unfold hS
      rw [if_pos h.symm]
    · rw [List.filter_cons_of_neg (by simpa using h), filt_flat b pl x r]
      unfold hS
      rw [if_neg fun z => h z.symm]
      rfl
theorem grp_two (b : Bool) (pl : Path → Path) {gk : List Spot} (hn : gk.Nodup) : ∀ ss : List Path, (∀ p ∈ ss, spotOf b pl p ∈ gk) → (gk.flatMap fun k => two (fun x o => [tnS x o]) (grp b pl ss k)).Perm (two (hS b pl) ss)
  | [], _ => by
    have : (gk.flatMap fun k => two (fun x o => [tnS x o]) (grp b pl [] k)) = [] := by
      rw [List.flatMap_eq_nil_iff]; intro k _; rfl
    rw [this]
    exact .refl _
  | x :: r, h => by
    have ih := grp_two b pl hn r fun p hp => h p (List.mem_cons_of_mem _ hp)
    have h2 := flat_ins (F := fun k => two (fun x o => [tnS x o]) (grp b pl (x :: r) k)) (G := fun k => two (fun x o => [tnS x o]) (grp b pl r k)) (A := r.flatMap (hS b pl x)) hn (h x (List.mem_cons_self ..)) (fun k hk => by
      show two _ (grp b pl (x :: r) k) = two _ (grp b pl r k)
      unfold grp
      rw [List.filter_cons_of_neg (by simpa using fun e => hk e.symm)]) (by
      show two _ (grp b pl (x :: r) _) = _ ++ two _ (grp b pl r _)
      rw [← filt_flat b pl x r]
      unfold grp
      rw [List.filter_cons_of_pos (by simp)]
      rfl)
    exact h2.trans (List.Perm.append (.refl _) ih)
theorem found_two (b : Bool) (pl : Path → Path) (ss : List Path) : ((foundM b pl ss).map tm).Perm (two (hS b pl) ss) := by
  have e : (foundM b pl ss).map tm = (gks b pl ss).flatMap fun k => two (fun x o => [tnS x o]) (grp b pl ss k) := by
    unfold foundM
    rw [List.map_flatMap, List.flatMap_def, List.flatMap_def, List.map_congr_left]
    intro k _
    rw [pairsK_two, two_mapo]
    rfl
  rw [e]
  exact grp_two b pl (gks_nodup b pl ss) ss fun p hp => mem_gks.mpr ⟨p, hp, rfl⟩
theorem turn_two (b : Bool) (wk : List Path) (wf : Path → Path) (ks : List Path) : turnO (pairsO (foundS b wk wf ks)) = (two (hS b (plc wk wf)) ks).mergeSort lePr := by
  unfold turnO
  refine sort_eq ?_
  have h1 : (pairsO (foundS b wk wf ks)).Perm ((foundM b (plc wk wf) (sortP (sortP ks))).map fun m => (smallP m.1, smallP m.2.1)) := by
    unfold pairsO foundS
    exact (List.mergeSort_perm _ _).trans ((List.mergeSort_perm _ _).map _)
  refine (h1.map _).trans ?_
  rw [List.map_map]
  refine (found_two b (plc wk wf) (sortP (sortP ks))).trans ?_
  exact two_perm (hS_comm b _) ((List.mergeSort_perm _ _).trans (List.mergeSort_perm _ _))
theorem small_small {p : Path} (h : ∀ n ∈ p, okS n = true) : smallP (smallP p) = smallP p := by
  unfold smallP
  rw [List.map_map]
  exact List.map_congr_left fun n hn => low_low (h n hn)
section
variable {ks : List Path} {mk : Path → Mark} {prs : List (Path × Path)}
theorem plc_small (R : RowsOk true ks mk) (T : ThirdOk ks prs) {p : Path} (hp : p ∈ ks) : plc ((sprs prs).map (·.1)) (asF (sprs prs)) (smallP p) = smallP (plc (prs.map (·.1)) (asF prs) p) := by
  have hn := T.sub.nodup R.nd
  have hn' := (third_small T).sub.nodup (rows_small R).nd
  have hm : smallP p ∈ (sprs prs).map (·.1) ↔ p ∈ prs.map (·.1) := by
    rw [sprs_fst]
    constructor
    · intro h
      obtain ⟨m, hm, e⟩ := List.mem_map.mp h
      have h1 : m.1 ∈ prs.map (·.1) := List.mem_map.mpr ⟨m, hm, rfl⟩
      rw [← small_inj R (.inr (T.sub.subset h1)) (.inr hp) e]
      exact h1
    · intro h
      obtain ⟨m, hm, e⟩ := List.mem_map.mp h
      exact List.mem_map.mpr ⟨m, hm, by rw [← e]⟩
  unfold plc
  by_cases h : p ∈ prs.map (·.1)
  · rw [if_pos h, if_pos (hm.mpr h)]
    obtain ⟨m, hm', rfl⟩ := List.mem_map.mp h
    rw [asF_at hn m hm']
    exact asF_at hn' (smallP m.1, smallP m.2) (List.mem_map.mpr ⟨m, hm', rfl⟩)
  · rw [if_neg h, if_neg fun z => h (hm.mp z)]
theorem spot_small (R : RowsOk true ks mk) (T : ThirdOk ks prs) {x o : Path} (hx : x ∈ ks) (ho : o ∈ ks) : spotOf true (plc (prs.map (·.1)) (asF prs)) x = spotOf true (plc (prs.map (·.1)) (asF prs)) o ↔ spotOf false (plc ((sprs prs).map (·.1)) (asF (sprs prs))) (smallP x) = spotOf false (plc ((sprs prs).map (·.1)) (asF (sprs prs))) (smallP o) := by
  have G := third_good R T
  have sp : ∀ p ∈ ks, spotOf false (plc ((sprs prs).map (·.1)) (asF (sprs prs))) (smallP p) = (smallP (spotOf true (plc (prs.map (·.1)) (asF prs)) p).1, (spotOf true (plc (prs.map (·.1)) (asF prs)) p).2) := fun p hp => by
    unfold spotOf hold
    rw [plc_small R T hp, small_drop, small_lst (G.pne hp)]
    simp
  have dr : ∀ p ∈ ks, (spotOf true (plc (prs.map (·.1)) (asF prs)) p).1 = [] ∨ (spotOf true (plc (prs.map (·.1)) (asF prs)) p).1 ∈ ks := fun p hp => (isDr_or (G.pdr hp)).imp id (·.1)
  rw [sp x hx, sp o ho]
  constructor
  · intro e; rw [e]
  · intro e
    rw [Prod.mk.injEq] at e
    exact Prod.ext (small_inj R (dr x hx) (dr o ho) e.1) e.2
theorem third_turn (R : RowsOk true ks mk) (T : ThirdOk ks prs) : turnO (pairsO (foundS true (prs.map (·.1)) (asF prs) ks)) = turnO (pairsO (foundS false ((sprs prs).map (·.1)) (asF (sprs prs)) (ks.map smallP))) := by
  rw [turn_two, turn_two, two_map]
  congr 1
  refine two_congr fun x hx o ho => ?_
  unfold hS tnS
  rw [small_small (R.ok x hx), small_small (R.ok o ho)]
  by_cases h : spotOf true (plc (prs.map (·.1)) (asF prs)) x = spotOf true (plc (prs.map (·.1)) (asF prs)) o
  · rw [if_pos h, if_pos ((spot_small R T hx ho).mp h)]
  · rw [if_neg h, if_neg fun z => h ((spot_small R T hx ho).mpr z)]
theorem plain_third (ks : List Path) (mk : Path → Mark) (prs : List (Path × Path)) (R : RowsOk true ks mk) (T : ThirdOk ks prs) :
    WfH true ks mk ∧ WfH false (ks.map smallP) (smallMk ks mk) ∧ GoodW ks mk (prs.map (·.1)) (asF prs) ∧ wD (prs.map (·.1)) (asF prs) = prs.map pairD ∧
    GoodW (ks.map smallP) (smallMk ks mk) (prs.map fun m => smallP m.1) (asF (prs.map fun m => (smallP m.1, smallP m.2))) ∧
    wD (prs.map fun m => smallP m.1) (asF (prs.map fun m => (smallP m.1, smallP m.2))) = (prs.map fun m => (smallP m.1, smallP m.2)).map pairD ∧
    turnO (pairsO (foundS true (prs.map (·.1)) (asF prs) ks)) = turnO (pairsO (foundS false (prs.map fun m => smallP m.1) (asF (prs.map fun m => (smallP m.1, smallP m.2))) (ks.map smallP))) := by
  have R' := rows_small R
  have T' := third_small T
  have h1 := third_good R' T'
  have h2 := third_wD (T'.sub.nodup R'.nd)
  have h3 := third_turn R T
  rw [sprs_fst] at h1 h2 h3
  exact ⟨R.wfH true, R'.wfH false, third_good R T, third_wD (T.sub.nodup R.nd), h1, h2, h3⟩
end
end R
namespace R
open PySem L2 Evl
theorem plain : Plain := ⟨plain_small, plain_alike, plain_third⟩
end R
/-! END: what the top has written, the head -/
namespace R
open PySem L2
theorem fn_at {K : PySem.W.Frag} {h : Heap} {mg : Str → Option Value} (X : K.In h) (G : h.Ns mainGlobals mg) {x : Str} {st : Stmt} {ps : List Str} {f : Addr} {oc : Value} {od an : Option Addr} {osl : Array (Option Value)} {kV doc pm cdv ct : Value}
    (a : PySem.W.nsIn K mainGlobals x = some (some (.ref f))) (l : K.lookup f = some ⟨oc, od, .func (PySem.W.fnOf x x (defArgs st) (defBody st) (defScope st) .none kV doc pm an cdv ct), osl⟩) (c : PySem.W.codeIn K cdv x = true) (k : PySem.W.keepIn K (.ref f) = true)
    (b : ∀ (kV doc pm : Value) (an : Option Addr) (cdv ct : Value) (us : List Value), us.length = ps.length → bindArgs (PySem.W.fnOf x x (defArgs st) (defBody st) (defScope st) .none kV doc pm an cdv ct) ⟨us, []⟩ = pure (ps.zip us)) : Nonempty (FnAt K mg x st ps) :=
  ⟨⟨f, _, fun_mk (st := st) l c k, PySem.W.mg_of X G a, (fun_mk (st := st) l c k).binds b⟩⟩
theorem mt_at {K : PySem.W.Frag} {C : Addr} {x qual : Str} {st : Stmt} {ps : List Str} {f : Addr} {oc : Value} {od an : Option Addr} {osl : Array (Option Value)} {kV doc pm cdv ct : Value}
    (a : PySem.W.findIn K (.ref C) x = some (some (.ref f))) (i : PySem.W.isFn K (.ref f) = true) (l : K.lookup f = some ⟨oc, od, .func (PySem.W.fnOf x qual (defArgs st) (defBody st) (defScope st) .none kV doc pm an cdv ct), osl⟩) (c : PySem.W.codeIn K cdv qual = true) (k : PySem.W.keepIn K (.ref f) = true)
    (b : ∀ (kV doc pm : Value) (an : Option Addr) (cdv ct : Value) (us : List Value), us.length = ps.length → bindArgs (PySem.W.fnOf x qual (defArgs st) (defBody st) (defScope st) .none kV doc pm an cdv ct) ⟨us, []⟩ = pure (ps.zip us)) : Nonempty (MtAt K C x qual st ps) :=
  ⟨⟨f, _, fun_mk (st := st) l c k, ⟨a, i, k⟩, (fun_mk (st := st) l c k).binds b⟩⟩

theorem all_mk {l : PySem.W.OpenLaw} {w : World} {K : PySem.W.Frag} {h : Heap} {mg : Str → Option Value} {fa : Addr} (X : K.In h) (G : h.Ns mainGlobals mg) (hfa : mg "law" = some (.ref fa))
    {f11 : Addr}
    {oc11 kV11 dc11 pm11 cd11 ct11 : Value} {od11 an11 : Option Addr} {sl11 : Array (Option Value)}
    {f12 : Addr}
    {oc12 kV12 dc12 pm12 cd12 ct12 : Value} {od12 an12 : Option Addr} {sl12 : Array (Option Value)}
    {f14 : Addr}
    {oc14 kV14 dc14 pm14 cd14 ct14 : Value} {od14 an14 : Option Addr} {sl14 : Array (Option Value)}
    {f15 : Addr}
    {oc15 kV15 dc15 pm15 cd15 ct15 : Value} {od15 an15 : Option Addr} {sl15 : Array (Option Value)}
    {f16 : Addr}
    {oc16 kV16 dc16 pm16 cd16 ct16 : Value} {od16 an16 : Option Addr} {sl16 : Array (Option Value)}
    {f17 : Addr}
    {oc17 kV17 dc17 pm17 cd17 ct17 : Value} {od17 an17 : Option Addr} {sl17 : Array (Option Value)}
    {f18 : Addr}
    {oc18 kV18 dc18 pm18 cd18 ct18 : Value} {od18 an18 : Option Addr} {sl18 : Array (Option Value)}
    {f19 : Addr}
    {oc19 kV19 dc19 pm19 cd19 ct19 : Value} {od19 an19 : Option Addr} {sl19 : Array (Option Value)}
    {f23 : Addr}
    {oc23 kV23 dc23 pm23 cd23 ct23 : Value} {od23 an23 : Option Addr} {sl23 : Array (Option Value)}
    {f24 : Addr}
    {oc24 kV24 dc24 pm24 cd24 ct24 : Value} {od24 an24 : Option Addr} {sl24 : Array (Option Value)}
    {f25 : Addr}
    {oc25 kV25 dc25 pm25 cd25 ct25 : Value} {od25 an25 : Option Addr} {sl25 : Array (Option Value)}
    {f26 : Addr}
    {oc26 kV26 dc26 pm26 cd26 ct26 : Value} {od26 an26 : Option Addr} {sl26 : Array (Option Value)}
    {f27 : Addr}
    {oc27 kV27 dc27 pm27 cd27 ct27 : Value} {od27 an27 : Option Addr} {sl27 : Array (Option Value)}
    {f30 : Addr}
    {oc30 kV30 dc30 pm30 cd30 ct30 : Value} {od30 an30 : Option Addr} {sl30 : Array (Option Value)}
    {f31 : Addr}
    {oc31 kV31 dc31 pm31 cd31 ct31 : Value} {od31 an31 : Option Addr} {sl31 : Array (Option Value)}
    {f32 : Addr}
    {oc32 kV32 dc32 pm32 cd32 ct32 : Value} {od32 an32 : Option Addr} {sl32 : Array (Option Value)}
    {f34 : Addr}
    {oc34 kV34 dc34 pm34 cd34 ct34 : Value} {od34 an34 : Option Addr} {sl34 : Array (Option Value)}
    {f35 : Addr}
    {oc35 kV35 dc35 pm35 cd35 ct35 : Value} {od35 an35 : Option Addr} {sl35 : Array (Option Value)}
    {f37 : Addr}
    {oc37 kV37 dc37 pm37 cd37 ct37 : Value} {od37 an37 : Option Addr} {sl37 : Array (Option Value)}
    {f38 : Addr}
    {oc38 kV38 dc38 pm38 cd38 ct38 : Value} {od38 an38 : Option Addr} {sl38 : Array (Option Value)}
    {f39 : Addr}
    {oc39 kV39 dc39 pm39 cd39 ct39 : Value} {od39 an39 : Option Addr} {sl39 : Array (Option Value)}
    {f40 : Addr}
    {oc40 kV40 dc40 pm40 cd40 ct40 : Value} {od40 an40 : Option Addr} {sl40 : Array (Option Value)}
    {f41 : Addr}
    {oc41 kV41 dc41 pm41 cd41 ct41 : Value} {od41 an41 : Option Addr} {sl41 : Array (Option Value)}
    {f42 : Addr}
    {oc42 kV42 dc42 pm42 cd42 ct42 : Value} {od42 an42 : Option Addr} {sl42 : Array (Option Value)}
    {f43 : Addr}
    {oc43 kV43 dc43 pm43 cd43 ct43 : Value} {od43 an43 : Option Addr} {sl43 : Array (Option Value)}
    {f44 : Addr}
    {oc44 kV44 dc44 pm44 cd44 ct44 : Value} {od44 an44 : Option Addr} {sl44 : Array (Option Value)}
    {f45 : Addr}
    {oc45 kV45 dc45 pm45 cd45 ct45 : Value} {od45 an45 : Option Addr} {sl45 : Array (Option Value)}
    {f47 : Addr}
    {oc47 kV47 dc47 pm47 cd47 ct47 : Value} {od47 an47 : Option Addr} {sl47 : Array (Option Value)}
    {f48 : Addr}
    {oc48 kV48 dc48 pm48 cd48 ct48 : Value} {od48 an48 : Option Addr} {sl48 : Array (Option Value)}
    {f49 : Addr}
    {oc49 kV49 dc49 pm49 cd49 ct49 : Value} {od49 an49 : Option Addr} {sl49 : Array (Option Value)}
    {f50 : Addr}
    {oc50 kV50 dc50 pm50 cd50 ct50 : Value} {od50 an50 : Option Addr} {sl50 : Array (Option Value)}
    {f51 : Addr}
    {oc51 kV51 dc51 pm51 cd51 ct51 : Value} {od51 an51 : Option Addr} {sl51 : Array (Option Value)}
    {CH : Addr}
    {fH0 : Addr}
    {ocH0 kVH0 dcH0 pmH0 cdH0 ctH0 : Value} {odH0 anH0 : Option Addr} {slH0 : Array (Option Value)}
    {TD : Addr}
    {tc : Value} {td : Option Addr} {tn : Nat} {tl : Array (Option Value)}
    {fH1 : Addr}
    {ocH1 kVH1 dcH1 pmH1 cdH1 ctH1 : Value} {odH1 anH1 : Option Addr} {slH1 : Array (Option Value)}
    {fH2 : Addr}
    {ocH2 kVH2 dcH2 pmH2 cdH2 ctH2 : Value} {odH2 anH2 : Option Addr} {slH2 : Array (Option Value)}
    {fH3 : Addr}
    {ocH3 kVH3 dcH3 pmH3 cdH3 ctH3 : Value} {odH3 anH3 : Option Addr} {slH3 : Array (Option Value)}
    {fH4 : Addr}
    {ocH4 kVH4 dcH4 pmH4 cdH4 ctH4 : Value} {odH4 anH4 : Option Addr} {slH4 : Array (Option Value)}
    {fH5 : Addr}
    {ocH5 kVH5 dcH5 pmH5 cdH5 ctH5 : Value} {odH5 anH5 : Option Addr} {slH5 : Array (Option Value)}
    {fH7 : Addr}
    {ocH7 kVH7 dcH7 pmH7 cdH7 ctH7 : Value} {odH7 anH7 : Option Addr} {slH7 : Array (Option Value)}
    {fH11 : Addr}
    {ocH11 kVH11 dcH11 pmH11 cdH11 ctH11 : Value} {odH11 anH11 : Option Addr} {slH11 : Array (Option Value)}
    {CS : Addr}
    {fS0 : Addr}
    {ocS0 kVS0 dcS0 pmS0 cdS0 ctS0 : Value} {odS0 anS0 : Option Addr} {slS0 : Array (Option Value)}
    {fS1 : Addr}
    {ocS1 kVS1 dcS1 pmS1 cdS1 ctS1 : Value} {odS1 anS1 : Option Addr} {slS1 : Array (Option Value)}
    {fS2 : Addr}
    {ocS2 kVS2 dcS2 pmS2 cdS2 ctS2 : Value} {odS2 anS2 : Option Addr} {slS2 : Array (Option Value)}
    {fS3 : Addr}
    {ocS3 kVS3 dcS3 pmS3 cdS3 ctS3 : Value} {odS3 anS3 : Option Addr} {slS3 : Array (Option Value)}
    {fS4 : Addr}
    {ocS4 kVS4 dcS4 pmS4 cdS4 ctS4 : Value} {odS4 anS4 : Option Addr} {slS4 : Array (Option Value)}
    {fS5 : Addr}
    {ocS5 kVS5 dcS5 pmS5 cdS5 ctS5 : Value} {odS5 anS5 : Option Addr} {slS5 : Array (Option Value)}
    {cE : Addr}
    (a11 : PySem.W.nsIn K mainGlobals "alike" = some (some (.ref f11)))
    (l11 : K.lookup f11 = some ⟨oc11, od11, .func (PySem.W.fnOf "alike" "alike" (defArgs s_alike) (defBody s_alike) (defScope s_alike) (.none) kV11 dc11 pm11 an11 cd11 ct11), sl11⟩)
    (c11 : PySem.W.codeIn K cd11 "alike" = true)
    (k11 : PySem.W.keepIn K (.ref f11) = true)
    (a12 : PySem.W.nsIn K mainGlobals "held_as" = some (some (.ref f12)))
    (l12 : K.lookup f12 = some ⟨oc12, od12, .func (PySem.W.fnOf "held_as" "held_as" (defArgs s_held_as) (defBody s_held_as) (defScope s_held_as) (.none) kV12 dc12 pm12 an12 cd12 ct12), sl12⟩)
    (c12 : PySem.W.codeIn K cd12 "held_as" = true)
    (k12 : PySem.W.keepIn K (.ref f12) = true)
    (a14 : PySem.W.nsIn K mainGlobals "going" = some (some (.ref f14)))
    (l14 : K.lookup f14 = some ⟨oc14, od14, .func (PySem.W.fnOf "going" "going" (defArgs s_going) (defBody s_going) (defScope s_going) (.none) kV14 dc14 pm14 an14 cd14 ct14), sl14⟩)
    (c14 : PySem.W.codeIn K cd14 "going" = true)
    (k14 : PySem.W.keepIn K (.ref f14) = true)
    (a15 : PySem.W.nsIn K mainGlobals "meetings" = some (some (.ref f15)))
    (l15 : K.lookup f15 = some ⟨oc15, od15, .func (PySem.W.fnOf "meetings" "meetings" (defArgs s_meetings) (defBody s_meetings) (defScope s_meetings) (.none) kV15 dc15 pm15 an15 cd15 ct15), sl15⟩)
    (c15 : PySem.W.codeIn K cd15 "meetings" = true)
    (k15 : PySem.W.keepIn K (.ref f15) = true)
    (a16 : PySem.W.nsIn K mainGlobals "ask_wishes" = some (some (.ref f16)))
    (l16 : K.lookup f16 = some ⟨oc16, od16, .func (PySem.W.fnOf "ask_wishes" "ask_wishes" (defArgs s_ask_wishes) (defBody s_ask_wishes) (defScope s_ask_wishes) (.none) kV16 dc16 pm16 an16 cd16 ct16), sl16⟩)
    (c16 : PySem.W.codeIn K cd16 "ask_wishes" = true)
    (k16 : PySem.W.keepIn K (.ref f16) = true)
    (a17 : PySem.W.nsIn K mainGlobals "path_then" = some (some (.ref f17)))
    (l17 : K.lookup f17 = some ⟨oc17, od17, .func (PySem.W.fnOf "path_then" "path_then" (defArgs s_path_then) (defBody s_path_then) (defScope s_path_then) (.none) kV17 dc17 pm17 an17 cd17 ct17), sl17⟩)
    (c17 : PySem.W.codeIn K cd17 "path_then" = true)
    (k17 : PySem.W.keepIn K (.ref f17) = true)
    (a18 : PySem.W.nsIn K mainGlobals "paths_then" = some (some (.ref f18)))
    (l18 : K.lookup f18 = some ⟨oc18, od18, .func (PySem.W.fnOf "paths_then" "paths_then" (defArgs s_paths_then) (defBody s_paths_then) (defScope s_paths_then) (.none) kV18 dc18 pm18 an18 cd18 ct18), sl18⟩)
    (c18 : PySem.W.codeIn K cd18 "paths_then" = true)
    (k18 : PySem.W.keepIn K (.ref f18) = true)
    (a19 : PySem.W.nsIn K mainGlobals "goal" = some (some (.ref f19)))
    (l19 : K.lookup f19 = some ⟨oc19, od19, .func (PySem.W.fnOf "goal" "goal" (defArgs s_goal) (defBody s_goal) (defScope s_goal) (.none) kV19 dc19 pm19 an19 cd19 ct19), sl19⟩)
    (c19 : PySem.W.codeIn K cd19 "goal" = true)
    (k19 : PySem.W.keepIn K (.ref f19) = true)
    (a23 : PySem.W.nsIn K mainGlobals "ahead_of" = some (some (.ref f23)))
    (l23 : K.lookup f23 = some ⟨oc23, od23, .func (PySem.W.fnOf "ahead_of" "ahead_of" (defArgs s_ahead_of) (defBody s_ahead_of) (defScope s_ahead_of) (.none) kV23 dc23 pm23 an23 cd23 ct23), sl23⟩)
    (c23 : PySem.W.codeIn K cd23 "ahead_of" = true)
    (k23 : PySem.W.keepIn K (.ref f23) = true)
    (a24 : PySem.W.nsIn K mainGlobals "gone_along" = some (some (.ref f24)))
    (l24 : K.lookup f24 = some ⟨oc24, od24, .func (PySem.W.fnOf "gone_along" "gone_along" (defArgs s_gone_along) (defBody s_gone_along) (defScope s_gone_along) (.none) kV24 dc24 pm24 an24 cd24 ct24), sl24⟩)
    (c24 : PySem.W.codeIn K cd24 "gone_along" = true)
    (k24 : PySem.W.keepIn K (.ref f24) = true)
    (a25 : PySem.W.nsIn K mainGlobals "firsts" = some (some (.ref f25)))
    (l25 : K.lookup f25 = some ⟨oc25, od25, .func (PySem.W.fnOf "firsts" "firsts" (defArgs s_firsts) (defBody s_firsts) (defScope s_firsts) (.none) kV25 dc25 pm25 an25 cd25 ct25), sl25⟩)
    (c25 : PySem.W.codeIn K cd25 "firsts" = true)
    (k25 : PySem.W.keepIn K (.ref f25) = true)
    (a26 : PySem.W.nsIn K mainGlobals "chains" = some (some (.ref f26)))
    (l26 : K.lookup f26 = some ⟨oc26, od26, .func (PySem.W.fnOf "chains" "chains" (defArgs s_chains) (defBody s_chains) (defScope s_chains) (.none) kV26 dc26 pm26 an26 cd26 ct26), sl26⟩)
    (c26 : PySem.W.codeIn K cd26 "chains" = true)
    (k26 : PySem.W.keepIn K (.ref f26) = true)
    (a27 : PySem.W.nsIn K mainGlobals "rings" = some (some (.ref f27)))
    (l27 : K.lookup f27 = some ⟨oc27, od27, .func (PySem.W.fnOf "rings" "rings" (defArgs s_rings) (defBody s_rings) (defScope s_rings) (.none) kV27 dc27 pm27 an27 cd27 ct27), sl27⟩)
    (c27 : PySem.W.codeIn K cd27 "rings" = true)
    (k27 : PySem.W.keepIn K (.ref f27) = true)
    (a30 : PySem.W.nsIn K mainGlobals "row_for" = some (some (.ref f30)))
    (l30 : K.lookup f30 = some ⟨oc30, od30, .func (PySem.W.fnOf "row_for" "row_for" (defArgs s_row_for) (defBody s_row_for) (defScope s_row_for) (.none) kV30 dc30 pm30 an30 cd30 ct30), sl30⟩)
    (c30 : PySem.W.codeIn K cd30 "row_for" = true)
    (k30 : PySem.W.keepIn K (.ref f30) = true)
    (a31 : PySem.W.nsIn K mainGlobals "gone_on" = some (some (.ref f31)))
    (l31 : K.lookup f31 = some ⟨oc31, od31, .func (PySem.W.fnOf "gone_on" "gone_on" (defArgs s_gone_on) (defBody s_gone_on) (defScope s_gone_on) (.none) kV31 dc31 pm31 an31 cd31 ct31), sl31⟩)
    (c31 : PySem.W.codeIn K cd31 "gone_on" = true)
    (k31 : PySem.W.keepIn K (.ref f31) = true)
    (a32 : PySem.W.nsIn K mainGlobals "does" = some (some (.ref f32)))
    (l32 : K.lookup f32 = some ⟨oc32, od32, .func (PySem.W.fnOf "does" "does" (defArgs s_does) (defBody s_does) (defScope s_does) (.none) kV32 dc32 pm32 an32 cd32 ct32), sl32⟩)
    (c32 : PySem.W.codeIn K cd32 "does" = true)
    (k32 : PySem.W.keepIn K (.ref f32) = true)
    (a34 : PySem.W.nsIn K mainGlobals "_law_draw" = some (some (.ref f34)))
    (l34 : K.lookup f34 = some ⟨oc34, od34, .func (PySem.W.fnOf "_law_draw" "_law_draw" (defArgs s_l_draw) (defBody s_l_draw) (defScope s_l_draw) (.none) kV34 dc34 pm34 an34 cd34 ct34), sl34⟩)
    (c34 : PySem.W.codeIn K cd34 "_law_draw" = true)
    (k34 : PySem.W.keepIn K (.ref f34) = true)
    (a35 : PySem.W.nsIn K mainGlobals "_law_name_signs" = some (some (.ref f35)))
    (l35 : K.lookup f35 = some ⟨oc35, od35, .func (PySem.W.fnOf "_law_name_signs" "_law_name_signs" (defArgs s_l_name_signs) (defBody s_l_name_signs) (defScope s_l_name_signs) (.none) kV35 dc35 pm35 an35 cd35 ct35), sl35⟩)
    (c35 : PySem.W.codeIn K cd35 "_law_name_signs" = true)
    (k35 : PySem.W.keepIn K (.ref f35) = true)
    (a37 : PySem.W.nsIn K mainGlobals "_law_text" = some (some (.ref f37)))
    (l37 : K.lookup f37 = some ⟨oc37, od37, .func (PySem.W.fnOf "_law_text" "_law_text" (defArgs s_l_text) (defBody s_l_text) (defScope s_l_text) (.none) kV37 dc37 pm37 an37 cd37 ct37), sl37⟩)
    (c37 : PySem.W.codeIn K cd37 "_law_text" = true)
    (k37 : PySem.W.keepIn K (.ref f37) = true)
    (a38 : PySem.W.nsIn K mainGlobals "_law_a_name" = some (some (.ref f38)))
    (l38 : K.lookup f38 = some ⟨oc38, od38, .func (PySem.W.fnOf "_law_a_name" "_law_a_name" (defArgs s_l_a_name) (defBody s_l_a_name) (defScope s_l_a_name) (.none) kV38 dc38 pm38 an38 cd38 ct38), sl38⟩)
    (c38 : PySem.W.codeIn K cd38 "_law_a_name" = true)
    (k38 : PySem.W.keepIn K (.ref f38) = true)
    (a39 : PySem.W.nsIn K mainGlobals "_law_fold" = some (some (.ref f39)))
    (l39 : K.lookup f39 = some ⟨oc39, od39, .func (PySem.W.fnOf "_law_fold" "_law_fold" (defArgs s_l_fold) (defBody s_l_fold) (defScope s_l_fold) (.none) kV39 dc39 pm39 an39 cd39 ct39), sl39⟩)
    (c39 : PySem.W.codeIn K cd39 "_law_fold" = true)
    (k39 : PySem.W.keepIn K (.ref f39) = true)
    (a40 : PySem.W.nsIn K mainGlobals "_law_rows" = some (some (.ref f40)))
    (l40 : K.lookup f40 = some ⟨oc40, od40, .func (PySem.W.fnOf "_law_rows" "_law_rows" (defArgs s_l_rows) (defBody s_l_rows) (defScope s_l_rows) (.none) kV40 dc40 pm40 an40 cd40 ct40), sl40⟩)
    (c40 : PySem.W.codeIn K cd40 "_law_rows" = true)
    (k40 : PySem.W.keepIn K (.ref f40) = true)
    (a41 : PySem.W.nsIn K mainGlobals "_law_other_case" = some (some (.ref f41)))
    (l41 : K.lookup f41 = some ⟨oc41, od41, .func (PySem.W.fnOf "_law_other_case" "_law_other_case" (defArgs s_l_other_case) (defBody s_l_other_case) (defScope s_l_other_case) (.none) kV41 dc41 pm41 an41 cd41 ct41), sl41⟩)
    (c41 : PySem.W.codeIn K cd41 "_law_other_case" = true)
    (k41 : PySem.W.keepIn K (.ref f41) = true)
    (a42 : PySem.W.nsIn K mainGlobals "_law_some_of" = some (some (.ref f42)))
    (l42 : K.lookup f42 = some ⟨oc42, od42, .func (PySem.W.fnOf "_law_some_of" "_law_some_of" (defArgs s_l_some_of) (defBody s_l_some_of) (defScope s_l_some_of) (.none) kV42 dc42 pm42 an42 cd42 ct42), sl42⟩)
    (c42 : PySem.W.codeIn K cd42 "_law_some_of" = true)
    (k42 : PySem.W.keepIn K (.ref f42) = true)
    (a43 : PySem.W.nsIn K mainGlobals "_law_free_place" = some (some (.ref f43)))
    (l43 : K.lookup f43 = some ⟨oc43, od43, .func (PySem.W.fnOf "_law_free_place" "_law_free_place" (defArgs s_l_free_place) (defBody s_l_free_place) (defScope s_l_free_place) (.none) kV43 dc43 pm43 an43 cd43 ct43), sl43⟩)
    (c43 : PySem.W.codeIn K cd43 "_law_free_place" = true)
    (k43 : PySem.W.keepIn K (.ref f43) = true)
    (a44 : PySem.W.nsIn K mainGlobals "_law_good_wishes" = some (some (.ref f44)))
    (l44 : K.lookup f44 = some ⟨oc44, od44, .func (PySem.W.fnOf "_law_good_wishes" "_law_good_wishes" (defArgs s_l_good_wishes) (defBody s_l_good_wishes) (defScope s_l_good_wishes) (.none) kV44 dc44 pm44 an44 cd44 ct44), sl44⟩)
    (c44 : PySem.W.codeIn K cd44 "_law_good_wishes" = true)
    (k44 : PySem.W.keepIn K (.ref f44) = true)
    (a45 : PySem.W.nsIn K mainGlobals "_law_in_order" = some (some (.ref f45)))
    (l45 : K.lookup f45 = some ⟨oc45, od45, .func (PySem.W.fnOf "_law_in_order" "_law_in_order" (defArgs s_l_in_order) (defBody s_l_in_order) (defScope s_l_in_order) (.none) kV45 dc45 pm45 an45 cd45 ct45), sl45⟩)
    (c45 : PySem.W.codeIn K cd45 "_law_in_order" = true)
    (k45 : PySem.W.keepIn K (.ref f45) = true)
    (a47 : PySem.W.nsIn K mainGlobals "_law_small" = some (some (.ref f47)))
    (l47 : K.lookup f47 = some ⟨oc47, od47, .func (PySem.W.fnOf "_law_small" "_law_small" (defArgs s_l_small) (defBody s_l_small) (defScope s_l_small) (.none) kV47 dc47 pm47 an47 cd47 ct47), sl47⟩)
    (c47 : PySem.W.codeIn K cd47 "_law_small" = true)
    (k47 : PySem.W.keepIn K (.ref f47) = true)
    (a48 : PySem.W.nsIn K mainGlobals "_law_pairs_only" = some (some (.ref f48)))
    (l48 : K.lookup f48 = some ⟨oc48, od48, .func (PySem.W.fnOf "_law_pairs_only" "_law_pairs_only" (defArgs s_l_pairs_only) (defBody s_l_pairs_only) (defScope s_l_pairs_only) (.none) kV48 dc48 pm48 an48 cd48 ct48), sl48⟩)
    (c48 : PySem.W.codeIn K cd48 "_law_pairs_only" = true)
    (k48 : PySem.W.keepIn K (.ref f48) = true)
    (a49 : PySem.W.nsIn K mainGlobals "_law_turned" = some (some (.ref f49)))
    (l49 : K.lookup f49 = some ⟨oc49, od49, .func (PySem.W.fnOf "_law_turned" "_law_turned" (defArgs s_l_turned) (defBody s_l_turned) (defScope s_l_turned) (.none) kV49 dc49 pm49 an49 cd49 ct49), sl49⟩)
    (c49 : PySem.W.codeIn K cd49 "_law_turned" = true)
    (k49 : PySem.W.keepIn K (.ref f49) = true)
    (a50 : PySem.W.nsIn K mainGlobals "_law_alike_told" = some (some (.ref f50)))
    (l50 : K.lookup f50 = some ⟨oc50, od50, .func (PySem.W.fnOf "_law_alike_told" "_law_alike_told" (defArgs s_l_alike_told) (defBody s_l_alike_told) (defScope s_l_alike_told) (.none) kV50 dc50 pm50 an50 cd50 ct50), sl50⟩)
    (c50 : PySem.W.codeIn K cd50 "_law_alike_told" = true)
    (k50 : PySem.W.keepIn K (.ref f50) = true)
    (a51 : PySem.W.nsIn K mainGlobals "law" = some (some (.ref f51)))
    (l51 : K.lookup f51 = some ⟨oc51, od51, .func (PySem.W.fnOf "law" "law" (defArgs s_law) (defBody s_law) (defScope s_law) (.none) kV51 dc51 pm51 an51 cd51 ct51), sl51⟩)
    (c51 : PySem.W.codeIn K cd51 "law" = true)
    (k51 : PySem.W.keepIn K (.ref f51) = true)
    (aCH : PySem.W.nsIn K mainGlobals "Hall" = some (some (.ref CH)))
    (aH0 : PySem.W.findIn K (.ref CH) "__init__" = some (some (.ref fH0)))
    (iH0 : PySem.W.isFn K (.ref fH0) = true)
    (lH0 : K.lookup fH0 = some ⟨ocH0, odH0, .func (PySem.W.fnOf "__init__" "Hall.__init__" (defArgs s_H___init__) (defBody s_H___init__) (defScope s_H___init__) (.ref TD) kVH0 dcH0 pmH0 anH0 cdH0 ctH0), slH0⟩)
    (lTD : K.lookup TD = some ⟨tc, td, .seq #[.bool false] tn, tl⟩)
    (cH0 : PySem.W.codeIn K cdH0 "Hall.__init__" = true)
    (kH0 : PySem.W.keepIn K (.ref fH0) = true)
    (aH1 : PySem.W.findIn K (.ref CH) "rows" = some (some (.ref fH1)))
    (iH1 : PySem.W.isFn K (.ref fH1) = true)
    (lH1 : K.lookup fH1 = some ⟨ocH1, odH1, .func (PySem.W.fnOf "rows" "Hall.rows" (defArgs s_H_rows) (defBody s_H_rows) (defScope s_H_rows) (.none) kVH1 dcH1 pmH1 anH1 cdH1 ctH1), slH1⟩)
    (cH1 : PySem.W.codeIn K cdH1 "Hall.rows" = true)
    (kH1 : PySem.W.keepIn K (.ref fH1) = true)
    (aH2 : PySem.W.findIn K (.ref CH) "is_blind" = some (some (.ref fH2)))
    (iH2 : PySem.W.isFn K (.ref fH2) = true)
    (lH2 : K.lookup fH2 = some ⟨ocH2, odH2, .func (PySem.W.fnOf "is_blind" "Hall.is_blind" (defArgs s_H_is_blind) (defBody s_H_is_blind) (defScope s_H_is_blind) (.none) kVH2 dcH2 pmH2 anH2 cdH2 ctH2), slH2⟩)
    (cH2 : PySem.W.codeIn K cdH2 "Hall.is_blind" = true)
    (kH2 : PySem.W.keepIn K (.ref fH2) = true)
    (aH3 : PySem.W.findIn K (.ref CH) "there" = some (some (.ref fH3)))
    (iH3 : PySem.W.isFn K (.ref fH3) = true)
    (lH3 : K.lookup fH3 = some ⟨ocH3, odH3, .func (PySem.W.fnOf "there" "Hall.there" (defArgs s_H_there) (defBody s_H_there) (defScope s_H_there) (.none) kVH3 dcH3 pmH3 anH3 cdH3 ctH3), slH3⟩)
    (cH3 : PySem.W.codeIn K cdH3 "Hall.there" = true)
    (kH3 : PySem.W.keepIn K (.ref fH3) = true)
    (aH4 : PySem.W.findIn K (.ref CH) "ask_thing" = some (some (.ref fH4)))
    (iH4 : PySem.W.isFn K (.ref fH4) = true)
    (lH4 : K.lookup fH4 = some ⟨ocH4, odH4, .func (PySem.W.fnOf "ask_thing" "Hall.ask_thing" (defArgs s_H_ask_thing) (defBody s_H_ask_thing) (defScope s_H_ask_thing) (.none) kVH4 dcH4 pmH4 anH4 cdH4 ctH4), slH4⟩)
    (cH4 : PySem.W.codeIn K cdH4 "Hall.ask_thing" = true)
    (kH4 : PySem.W.keepIn K (.ref fH4) = true)
    (aH5 : PySem.W.findIn K (.ref CH) "ask_drawer" = some (some (.ref fH5)))
    (iH5 : PySem.W.isFn K (.ref fH5) = true)
    (lH5 : K.lookup fH5 = some ⟨ocH5, odH5, .func (PySem.W.fnOf "ask_drawer" "Hall.ask_drawer" (defArgs s_H_ask_drawer) (defBody s_H_ask_drawer) (defScope s_H_ask_drawer) (.none) kVH5 dcH5 pmH5 anH5 cdH5 ctH5), slH5⟩)
    (cH5 : PySem.W.codeIn K cdH5 "Hall.ask_drawer" = true)
    (kH5 : PySem.W.keepIn K (.ref fH5) = true)
    (aH7 : PySem.W.findIn K (.ref CH) "is_drawer" = some (some (.ref fH7)))
    (iH7 : PySem.W.isFn K (.ref fH7) = true)
    (lH7 : K.lookup fH7 = some ⟨ocH7, odH7, .func (PySem.W.fnOf "is_drawer" "Hall.is_drawer" (defArgs s_H_is_drawer) (defBody s_H_is_drawer) (defScope s_H_is_drawer) (.none) kVH7 dcH7 pmH7 anH7 cdH7 ctH7), slH7⟩)
    (cH7 : PySem.W.codeIn K cdH7 "Hall.is_drawer" = true)
    (kH7 : PySem.W.keepIn K (.ref fH7) = true)
    (aH11 : PySem.W.findIn K (.ref CH) "move" = some (some (.ref fH11)))
    (iH11 : PySem.W.isFn K (.ref fH11) = true)
    (lH11 : K.lookup fH11 = some ⟨ocH11, odH11, .func (PySem.W.fnOf "move" "Hall.move" (defArgs s_H_move) (defBody s_H_move) (defScope s_H_move) (.none) kVH11 dcH11 pmH11 anH11 cdH11 ctH11), slH11⟩)
    (cH11 : PySem.W.codeIn K cdH11 "Hall.move" = true)
    (kH11 : PySem.W.keepIn K (.ref fH11) = true)
    (pgH : PySem.W.plainGet K CH Str.empty = true)
    (hdH : PySem.W.hasDictIn K CH = true)
    (poH : PySem.W.plainOver K CH = true)
    (saH : PySem.W.findIn K (.ref CH) "__setattr__" = some (some (.builtin "object.__setattr__")))
    (mkH : PySem.W.makesIn K CH = true)
    (kcH : PySem.W.keepIn K (.ref CH) = true)
    (nH_blind : PySem.W.findIn K (.ref CH) "blind" = some none)
    (nH_marks : PySem.W.findIn K (.ref CH) "marks" = some none)
    (aCS : PySem.W.nsIn K mainGlobals "Sorter" = some (some (.ref CS)))
    (aS0 : PySem.W.findIn K (.ref CS) "__init__" = some (some (.ref fS0)))
    (iS0 : PySem.W.isFn K (.ref fS0) = true)
    (lS0 : K.lookup fS0 = some ⟨ocS0, odS0, .func (PySem.W.fnOf "__init__" "Sorter.__init__" (defArgs s_S___init__) (defBody s_S___init__) (defScope s_S___init__) (.none) kVS0 dcS0 pmS0 anS0 cdS0 ctS0), slS0⟩)
    (cS0 : PySem.W.codeIn K cdS0 "Sorter.__init__" = true)
    (kS0 : PySem.W.keepIn K (.ref fS0) = true)
    (aS1 : PySem.W.findIn K (.ref CS) "path_now" = some (some (.ref fS1)))
    (iS1 : PySem.W.isFn K (.ref fS1) = true)
    (lS1 : K.lookup fS1 = some ⟨ocS1, odS1, .func (PySem.W.fnOf "path_now" "Sorter.path_now" (defArgs s_S_path_now) (defBody s_S_path_now) (defScope s_S_path_now) (.none) kVS1 dcS1 pmS1 anS1 cdS1 ctS1), slS1⟩)
    (cS1 : PySem.W.codeIn K cdS1 "Sorter.path_now" = true)
    (kS1 : PySem.W.keepIn K (.ref fS1) = true)
    (aS2 : PySem.W.findIn K (.ref CS) "go" = some (some (.ref fS2)))
    (iS2 : PySem.W.isFn K (.ref fS2) = true)
    (lS2 : K.lookup fS2 = some ⟨ocS2, odS2, .func (PySem.W.fnOf "go" "Sorter.go" (defArgs s_S_go) (defBody s_S_go) (defScope s_S_go) (.none) kVS2 dcS2 pmS2 anS2 cdS2 ctS2), slS2⟩)
    (cS2 : PySem.W.codeIn K cdS2 "Sorter.go" = true)
    (kS2 : PySem.W.keepIn K (.ref fS2) = true)
    (aS3 : PySem.W.findIn K (.ref CS) "go_home" = some (some (.ref fS3)))
    (iS3 : PySem.W.isFn K (.ref fS3) = true)
    (lS3 : K.lookup fS3 = some ⟨ocS3, odS3, .func (PySem.W.fnOf "go_home" "Sorter.go_home" (defArgs s_S_go_home) (defBody s_S_go_home) (defScope s_S_go_home) (.none) kVS3 dcS3 pmS3 anS3 cdS3 ctS3), slS3⟩)
    (cS3 : PySem.W.codeIn K cdS3 "Sorter.go_home" = true)
    (kS3 : PySem.W.keepIn K (.ref fS3) = true)
    (aS4 : PySem.W.findIn K (.ref CS) "spare_name" = some (some (.ref fS4)))
    (iS4 : PySem.W.isFn K (.ref fS4) = true)
    (lS4 : K.lookup fS4 = some ⟨ocS4, odS4, .func (PySem.W.fnOf "spare_name" "Sorter.spare_name" (defArgs s_S_spare_name) (defBody s_S_spare_name) (defScope s_S_spare_name) (.none) kVS4 dcS4 pmS4 anS4 cdS4 ctS4), slS4⟩)
    (cS4 : PySem.W.codeIn K cdS4 "Sorter.spare_name" = true)
    (kS4 : PySem.W.keepIn K (.ref fS4) = true)
    (aS5 : PySem.W.findIn K (.ref CS) "go_round" = some (some (.ref fS5)))
    (iS5 : PySem.W.isFn K (.ref fS5) = true)
    (lS5 : K.lookup fS5 = some ⟨ocS5, odS5, .func (PySem.W.fnOf "go_round" "Sorter.go_round" (defArgs s_S_go_round) (defBody s_S_go_round) (defScope s_S_go_round) (.none) kVS5 dcS5 pmS5 anS5 cdS5 ctS5), slS5⟩)
    (cS5 : PySem.W.codeIn K cdS5 "Sorter.go_round" = true)
    (kS5 : PySem.W.keepIn K (.ref fS5) = true)
    (pgS : PySem.W.plainGet K CS Str.empty = true)
    (hdS : PySem.W.hasDictIn K CS = true)
    (poS : PySem.W.plainOver K CS = true)
    (saS : PySem.W.findIn K (.ref CS) "__setattr__" = some (some (.builtin "object.__setattr__")))
    (mkS : PySem.W.makesIn K CS = true)
    (kcS : PySem.W.keepIn K (.ref CS) = true)
    (nS_blind : PySem.W.findIn K (.ref CS) "blind" = some none)
    (nS_places : PySem.W.findIn K (.ref CS) "places" = some none)
    (nS_spots : PySem.W.findIn K (.ref CS) "spots" = some none)
    (nS_moves : PySem.W.findIn K (.ref CS) "moves" = some none)
    (z_dict : PySem.W.nsIn K mainGlobals "dict" = some none)
    (z_enumerate : PySem.W.nsIn K mainGlobals "enumerate" = some none)
    (z_sorted : PySem.W.nsIn K mainGlobals "sorted" = some none)
    (z_range : PySem.W.nsIn K mainGlobals "range" = some none)
    (z_len : PySem.W.nsIn K mainGlobals "len" = some none)
    (z_reversed : PySem.W.nsIn K mainGlobals "reversed" = some none)
    (z_list : PySem.W.nsIn K mainGlobals "list" = some none)
    (z_str : PySem.W.nsIn K mainGlobals "str" = some none)
    (z_zip : PySem.W.nsIn K mainGlobals "zip" = some none)
    (z_tuple : PySem.W.nsIn K mainGlobals "tuple" = some none)
    (z_max : PySem.W.nsIn K mainGlobals "max" = some none)
    (z_min : PySem.W.nsIn K mainGlobals "min" = some none)
    (aE : PySem.W.nsIn K mainGlobals "HallError" = some (some (.ref cE))) :
    ∃ fd : FuncData, (∀ (s : Shared) (v : Value), BindsTo s fd ⟨[v], []⟩ [("_law_script", v)]) ∧ ∀ base : Heap, K.In base → base.Ns mainGlobals mg → FnOk l.prog w K mg base CX0 14 fa fd ["_law_script"] (spLaw K) := by
  have e := hfa.symm.trans (PySem.W.mg_of X G a51)
  cases e
  obtain ⟨x11⟩ := fn_at (st := s_alike) (ps := ["one", "other"]) X G a11 l11 c11 k11 (fun _ _ _ _ _ _ us hl => match us, hl with | [_, _], _ => rfl)
  obtain ⟨x12⟩ := fn_at (st := s_held_as) (ps := ["name", "blind"]) X G a12 l12 c12 k12 (fun _ _ _ _ _ _ us hl => match us, hl with | [_, _], _ => rfl)
  obtain ⟨x14⟩ := fn_at (st := s_going) (ps := ["hall", "wishes"]) X G a14 l14 c14 k14 (fun _ _ _ _ _ _ us hl => match us, hl with | [_, _], _ => rfl)
  obtain ⟨x15⟩ := fn_at (st := s_meetings) (ps := ["hall", "wishes"]) X G a15 l15 c15 k15 (fun _ _ _ _ _ _ us hl => match us, hl with | [_, _], _ => rfl)
  obtain ⟨x16⟩ := fn_at (st := s_ask_wishes) (ps := ["hall", "wishes"]) X G a16 l16 c16 k16 (fun _ _ _ _ _ _ us hl => match us, hl with | [_, _], _ => rfl)
  obtain ⟨x17⟩ := fn_at (st := s_path_then) (ps := ["places", "path"]) X G a17 l17 c17 k17 (fun _ _ _ _ _ _ us hl => match us, hl with | [_, _], _ => rfl)
  obtain ⟨x18⟩ := fn_at (st := s_paths_then) (ps := ["hall", "wishes"]) X G a18 l18 c18 k18 (fun _ _ _ _ _ _ us hl => match us, hl with | [_, _], _ => rfl)
  obtain ⟨x19⟩ := fn_at (st := s_goal) (ps := ["hall", "wishes"]) X G a19 l19 c19 k19 (fun _ _ _ _ _ _ us hl => match us, hl with | [_, _], _ => rfl)
  obtain ⟨x23⟩ := fn_at (st := s_ahead_of) (ps := ["hall", "wishes"]) X G a23 l23 c23 k23 (fun _ _ _ _ _ _ us hl => match us, hl with | [_, _], _ => rfl)
  obtain ⟨x24⟩ := fn_at (st := s_gone_along) (ps := ["ahead", "first"]) X G a24 l24 c24 k24 (fun _ _ _ _ _ _ us hl => match us, hl with | [_, _], _ => rfl)
  obtain ⟨x25⟩ := fn_at (st := s_firsts) (ps := ["ahead"]) X G a25 l25 c25 k25 (fun _ _ _ _ _ _ us hl => match us, hl with | [_], _ => rfl)
  obtain ⟨x26⟩ := fn_at (st := s_chains) (ps := ["hall", "wishes"]) X G a26 l26 c26 k26 (fun _ _ _ _ _ _ us hl => match us, hl with | [_, _], _ => rfl)
  obtain ⟨x27⟩ := fn_at (st := s_rings) (ps := ["hall", "wishes"]) X G a27 l27 c27 k27 (fun _ _ _ _ _ _ us hl => match us, hl with | [_, _], _ => rfl)
  obtain ⟨x30⟩ := fn_at (st := s_row_for) (ps := ["hall", "wishes"]) X G a30 l30 c30 k30 (fun _ _ _ _ _ _ us hl => match us, hl with | [_, _], _ => rfl)
  obtain ⟨x31⟩ := fn_at (st := s_gone_on) (ps := ["paths", "path", "place"]) X G a31 l31 c31 k31 (fun _ _ _ _ _ _ us hl => match us, hl with | [_, _, _], _ => rfl)
  obtain ⟨x32⟩ := fn_at (st := s_does) (ps := ["hall", "wishes", "row"]) X G a32 l32 c32 k32 (fun _ _ _ _ _ _ us hl => match us, hl with | [_, _, _], _ => rfl)
  obtain ⟨x34⟩ := fn_at (st := s_l_draw) (ps := ["_law_feed", "_law_many"]) X G a34 l34 c34 k34 (fun _ _ _ _ _ _ us hl => match us, hl with | [_, _], _ => rfl)
  obtain ⟨x35⟩ := fn_at (st := s_l_name_signs) (ps := []) X G a35 l35 c35 k35 (fun _ _ _ _ _ _ us hl => match us, hl with | [], _ => rfl)
  obtain ⟨x37⟩ := fn_at (st := s_l_text) (ps := ["_law_feed", "_law_signs", "_law_size"]) X G a37 l37 c37 k37 (fun _ _ _ _ _ _ us hl => match us, hl with | [_, _, _], _ => rfl)
  obtain ⟨x38⟩ := fn_at (st := s_l_a_name) (ps := ["_law_feed"]) X G a38 l38 c38 k38 (fun _ _ _ _ _ _ us hl => match us, hl with | [_], _ => rfl)
  obtain ⟨x39⟩ := fn_at (st := s_l_fold) (ps := ["_law_name", "_law_blind"]) X G a39 l39 c39 k39 (fun _ _ _ _ _ _ us hl => match us, hl with | [_, _], _ => rfl)
  obtain ⟨x40⟩ := fn_at (st := s_l_rows) (ps := ["_law_feed", "_law_blind", "_law_most"]) X G a40 l40 c40 k40 (fun _ _ _ _ _ _ us hl => match us, hl with | [_, _, _], _ => rfl)
  obtain ⟨x41⟩ := fn_at (st := s_l_other_case) (ps := ["_law_feed", "_law_name"]) X G a41 l41 c41 k41 (fun _ _ _ _ _ _ us hl => match us, hl with | [_, _], _ => rfl)
  obtain ⟨x42⟩ := fn_at (st := s_l_some_of) (ps := ["_law_feed", "_law_things", "_law_many"]) X G a42 l42 c42 k42 (fun _ _ _ _ _ _ us hl => match us, hl with | [_, _, _], _ => rfl)
  obtain ⟨x43⟩ := fn_at (st := s_l_free_place) (ps := ["_law_feed", "_law_marks", "_law_path", "_law_taken", "_law_blind"]) X G a43 l43 c43 k43 (fun _ _ _ _ _ _ us hl => match us, hl with | [_, _, _, _, _], _ => rfl)
  obtain ⟨x44⟩ := fn_at (st := s_l_good_wishes) (ps := ["_law_feed", "_law_rows_here", "_law_blind", "_law_most"]) X G a44 l44 c44 k44 (fun _ _ _ _ _ _ us hl => match us, hl with | [_, _, _, _], _ => rfl)
  obtain ⟨x45⟩ := fn_at (st := s_l_in_order) (ps := ["_law_feed", "_law_wishes"]) X G a45 l45 c45 k45 (fun _ _ _ _ _ _ us hl => match us, hl with | [_, _], _ => rfl)
  obtain ⟨x47⟩ := fn_at (st := s_l_small) (ps := ["_law_path"]) X G a47 l47 c47 k47 (fun _ _ _ _ _ _ us hl => match us, hl with | [_], _ => rfl)
  obtain ⟨x48⟩ := fn_at (st := s_l_pairs_only) (ps := ["_law_found"]) X G a48 l48 c48 k48 (fun _ _ _ _ _ _ us hl => match us, hl with | [_], _ => rfl)
  obtain ⟨x49⟩ := fn_at (st := s_l_turned) (ps := ["_law_pairs"]) X G a49 l49 c49 k49 (fun _ _ _ _ _ _ us hl => match us, hl with | [_], _ => rfl)
  obtain ⟨x50⟩ := fn_at (st := s_l_alike_told) (ps := ["_law_rows_here", "_law_wishes"]) X G a50 l50 c50 k50 (fun _ _ _ _ _ _ us hl => match us, hl with | [_, _], _ => rfl)
  obtain ⟨xH1⟩ := mt_at (st := s_H_rows) (ps := ["self"]) aH1 iH1 lH1 cH1 kH1 (fun _ _ _ _ _ _ us hl => match us, hl with | [_], _ => rfl)
  obtain ⟨xH2⟩ := mt_at (st := s_H_is_blind) (ps := ["self"]) aH2 iH2 lH2 cH2 kH2 (fun _ _ _ _ _ _ us hl => match us, hl with | [_], _ => rfl)
  obtain ⟨xH3⟩ := mt_at (st := s_H_there) (ps := ["self", "place"]) aH3 iH3 lH3 cH3 kH3 (fun _ _ _ _ _ _ us hl => match us, hl with | [_, _], _ => rfl)
  obtain ⟨xH4⟩ := mt_at (st := s_H_ask_thing) (ps := ["self", "path"]) aH4 iH4 lH4 cH4 kH4 (fun _ _ _ _ _ _ us hl => match us, hl with | [_, _], _ => rfl)
  obtain ⟨xH5⟩ := mt_at (st := s_H_ask_drawer) (ps := ["self", "path"]) aH5 iH5 lH5 cH5 kH5 (fun _ _ _ _ _ _ us hl => match us, hl with | [_, _], _ => rfl)
  obtain ⟨xH7⟩ := mt_at (st := s_H_is_drawer) (ps := ["self", "path"]) aH7 iH7 lH7 cH7 kH7 (fun _ _ _ _ _ _ us hl => match us, hl with | [_, _], _ => rfl)
  obtain ⟨xH11⟩ := mt_at (st := s_H_move) (ps := ["self", "path", "place"]) aH11 iH11 lH11 cH11 kH11 (fun _ _ _ _ _ _ us hl => match us, hl with | [_, _, _], _ => rfl)
  obtain ⟨xS1⟩ := mt_at (st := s_S_path_now) (ps := ["self", "path"]) aS1 iS1 lS1 cS1 kS1 (fun _ _ _ _ _ _ us hl => match us, hl with | [_, _], _ => rfl)
  obtain ⟨xS2⟩ := mt_at (st := s_S_go) (ps := ["self", "path", "drawer", "name"]) aS2 iS2 lS2 cS2 kS2 (fun _ _ _ _ _ _ us hl => match us, hl with | [_, _, _, _], _ => rfl)
  obtain ⟨xS3⟩ := mt_at (st := s_S_go_home) (ps := ["self", "path"]) aS3 iS3 lS3 cS3 kS3 (fun _ _ _ _ _ _ us hl => match us, hl with | [_, _], _ => rfl)
  obtain ⟨xS4⟩ := mt_at (st := s_S_spare_name) (ps := ["self", "drawer"]) aS4 iS4 lS4 cS4 kS4 (fun _ _ _ _ _ _ us hl => match us, hl with | [_, _], _ => rfl)
  obtain ⟨xS5⟩ := mt_at (st := s_S_go_round) (ps := ["self", "ring"]) aS5 iS5 lS5 cS5 kS5 (fun _ _ _ _ _ _ us hl => match us, hl with | [_, _], _ => rfl)
  have FH : FunD K "__init__" "Hall.__init__" (defArgs s_H___init__) (defBody s_H___init__) (defScope s_H___init__) [.bl false] [] fH0 _ := ⟨⟨ocH0, odH0, .ref TD, kVH0, dcH0, pmH0, anH0, cdH0, ctH0, slH0, rfl, lH0, cH0, .inr ⟨by simp, TD, _, [.bool false], tn, rfl, lTD, rfl, .cons rfl .nil⟩, .inl rfl⟩, kH0⟩
  obtain ⟨ds, hds, hb⟩ := FH.binds1 (ps := ["self", "rows", "blind"]) 3 1 (by simp) rfl fun T kV doc pm an cdv ct us its h1 h2 => match us, its, h1, h2 with | [_, _, _], [_], _, _ => ⟨_, rfl, rfl⟩
  cases hds
  have FS := fun_mk (st := s_S___init__) lS0 cS0 kS0
  have bS := FS.binds (ps := ["self", "hall", "wishes"]) (fun _ _ _ _ _ _ us hl => match us, hl with | [_, _, _], _ => rfl)
  have T : Nonempty (Txt K mg) := ⟨Txt.mk (alike := x11)
    (held_as := x12)
    (going := x14)
    (meetings := x15)
    (ask_wishes := x16)
    (path_then := x17)
    (paths_then := x18)
    (goal := x19)
    (ahead_of := x23)
    (gone_along := x24)
    (firsts := x25)
    (chains := x26)
    (rings := x27)
    (row_for := x30)
    (gone_on := x31)
    (does := x32)
    (l_draw := x34)
    (l_name_signs := x35)
    (l_text := x37)
    (l_a_name := x38)
    (l_fold := x39)
    (l_rows := x40)
    (l_other_case := x41)
    (l_some_of := x42)
    (l_free_place := x43)
    (l_good_wishes := x44)
    (l_in_order := x45)
    (l_small := x47)
    (l_pairs_only := x48)
    (l_turned := x49)
    (l_alike_told := x50)
    (H_rows := xH1)
    (H_is_blind := xH2)
    (H_there := xH3)
    (H_ask_thing := xH4)
    (H_ask_drawer := xH5)
    (H_is_drawer := xH7)
    (H_move := xH11)
    (CH := CH)
    (gH := PySem.W.mg_of X G aCH)
    (clH := ⟨pgH, hdH, poH, saH⟩)
    (nH_blind := nH_blind)
    (nH_marks := nH_marks)
    (fHi := fH0)
    (mHi := ⟨mkH, aH0, iH0, kcH⟩)
    (S_path_now := xS1)
    (S_go := xS2)
    (S_go_home := xS3)
    (S_spare_name := xS4)
    (S_go_round := xS5)
    (CS := CS)
    (gS := PySem.W.mg_of X G aCS)
    (clS := ⟨pgS, hdS, poS, saS⟩)
    (nS_blind := nS_blind)
    (nS_places := nS_places)
    (nS_spots := nS_spots)
    (nS_moves := nS_moves)
    (fSi := fS0)
    (mSi := ⟨mkS, aS0, iS0, kcS⟩)
    (fdHi := _)
    (FHi := FH)
    (bHi := hb)
    (fdSi := _)
    (FSi := FS)
    (bSi := bS)
    (z_dict := PySem.W.mg_none_of X G z_dict)
    (z_enumerate := PySem.W.mg_none_of X G z_enumerate)
    (z_sorted := PySem.W.mg_none_of X G z_sorted)
    (z_range := PySem.W.mg_none_of X G z_range)
    (z_len := PySem.W.mg_none_of X G z_len)
    (z_reversed := PySem.W.mg_none_of X G z_reversed)
    (z_list := PySem.W.mg_none_of X G z_list)
    (z_str := PySem.W.mg_none_of X G z_str)
    (z_zip := PySem.W.mg_none_of X G z_zip)
    (z_tuple := PySem.W.mg_none_of X G z_tuple)
    (z_max := PySem.W.mg_none_of X G z_max)
    (z_min := PySem.W.mg_none_of X G z_min)
    (cE := cE)
    (gE := PySem.W.mg_of X G aE)⟩
  obtain ⟨T⟩ := T
  exact ⟨_, fun s v => .of_eq rfl, fun base _ _ => ok_law plain T (fun_mk (st := s_law) l51 c51 k51)⟩

theorem walk {l : PySem.W.OpenLaw} {q : Program} {loose : List Str} {XP : (Str → Option Value) → Heap → Prop} {YP : World → Heap → Prop} {d : DefRec} {K : Params → PySem.W.Frag} (hn : l.most = some 63) (hdf : d.params.defaults = [])
    (hY : ∀ (w : World) (h : Heap), YP w h → (K w.params).In h)
    (F : ∀ (w : World) (mg : Str → Option Value) (fa : Addr) (h : Heap), (K w.params).In h → h.Ns mainGlobals mg → mg d.name = some (.ref fa) →
      ∃ fd : FuncData, (∀ (s : Shared) (u : Value), BindsTo s fd ⟨[u], []⟩ [("_law_script", u)]) ∧ ∀ base : Heap, (K w.params).In base → base.Ns mainGlobals mg → FnOk l.prog w (K w.params) mg base CX0 14 fa fd ["_law_script"] (spLaw (K w.params))) :
    PySem.W.WalkO q loose XP YP l.row.toRowW d [] (fun f vs => PySem.call f vs) :=
  L2.walk_of (n := 63) (k := 14) (x := "_law_script") (CX := fun _ => CX0) (sp := fun w => spLaw (K w.params)) hn (by decide) hdf ⟨rfl, by decide, by decide⟩ hY F (fun _ _ a ns hl _ hS => ⟨a, ns, rfl, hS, hl, fun _ => rfl⟩) fun _ _ _ _ _ z => z
end R

open PySem PySem.W PyProof.Rows in
set_option maxHeartbeats 0 in
theorem PySem.Challenge.cw_renamehall_k94_whole_blind_or_not_holds : PySem.Challenge.rw_renamehall_k94_whole_blind_or_not.Holds := by
  w_on; o_law; k_head; (case hw => w_witness2)
  k_fill
  refine R.walk (l := PySem.Challenge.rw_renamehall_k94_whole_blind_or_not) rfl rfl (fun w h Y => PySem.W.kIn_of Y) ?F
  case F =>
    intro w mg fa h KX G hmg
    refine' R.all_mk KX G hmg ?a11 ?l11 ?c11 ?k11 ?a12 ?l12 ?c12 ?k12 ?a14 ?l14 ?c14 ?k14 ?a15 ?l15 ?c15 ?k15 ?a16 ?l16 ?c16 ?k16 ?a17 ?l17 ?c17 ?k17 ?a18 ?l18 ?c18 ?k18 ?a19 ?l19 ?c19 ?k19 ?a23 ?l23 ?c23 ?k23 ?a24 ?l24 ?c24 ?k24 ?a25 ?l25 ?c25 ?k25 ?a26 ?l26 ?c26 ?k26 ?a27 ?l27 ?c27 ?k27 ?a30 ?l30 ?c30 ?k30 ?a31 ?l31 ?c31 ?k31 ?a32 ?l32 ?c32 ?k32 ?a34 ?l34 ?c34 ?k34 ?a35 ?l35 ?c35 ?k35 ?a37 ?l37 ?c37 ?k37 ?a38 ?l38 ?c38 ?k38 ?a39 ?l39 ?c39 ?k39 ?a40 ?l40 ?c40 ?k40 ?a41 ?l41 ?c41 ?k41 ?a42 ?l42 ?c42 ?k42 ?a43 ?l43 ?c43 ?k43 ?a44 ?l44 ?c44 ?k44 ?a45 ?l45 ?c45 ?k45 ?a47 ?l47 ?c47 ?k47 ?a48 ?l48 ?c48 ?k48 ?a49 ?l49 ?c49 ?k49 ?a50 ?l50 ?c50 ?k50 ?a51 ?l51 ?c51 ?k51 ?aCH ?aH0 ?iH0 ?lH0 ?lTD ?cH0 ?kH0 ?aH1 ?iH1 ?lH1 ?cH1 ?kH1 ?aH2 ?iH2 ?lH2 ?cH2 ?kH2 ?aH3 ?iH3 ?lH3 ?cH3 ?kH3 ?aH4 ?iH4 ?lH4 ?cH4 ?kH4 ?aH5 ?iH5 ?lH5 ?cH5 ?kH5 ?aH7 ?iH7 ?lH7 ?cH7 ?kH7 ?aH11 ?iH11 ?lH11 ?cH11 ?kH11 ?pgH ?hdH ?poH ?saH ?mkH ?kcH ?nH_blind ?nH_marks ?aCS ?aS0 ?iS0 ?lS0 ?cS0 ?kS0 ?aS1 ?iS1 ?lS1 ?cS1 ?kS1 ?aS2 ?iS2 ?lS2 ?cS2 ?kS2 ?aS3 ?iS3 ?lS3 ?cS3 ?kS3 ?aS4 ?iS4 ?lS4 ?cS4 ?kS4 ?aS5 ?iS5 ?lS5 ?cS5 ?kS5 ?pgS ?hdS ?poS ?saS ?mkS ?kcS ?nS_blind ?nS_places ?nS_spots ?nS_moves ?z_dict ?z_enumerate ?z_sorted ?z_range ?z_len ?z_reversed ?z_list ?z_str ?z_zip ?z_tuple ?z_max ?z_min ?aE
    (case a11 => k_is)
    (case l11 => k_is)
    (case c11 => k_is)
    (case k11 => k_is)
    (case a12 => k_is)
    (case l12 => k_is)
    (case c12 => k_is)
    (case k12 => k_is)
    (case a14 => k_is)
    (case l14 => k_is)
    (case c14 => k_is)
    (case k14 => k_is)
    (case a15 => k_is)
    (case l15 => k_is)
    (case c15 => k_is)
    (case k15 => k_is)
    (case a16 => k_is)
    (case l16 => k_is)
    (case c16 => k_is)
    (case k16 => k_is)
    (case a17 => k_is)
    (case l17 => k_is)
    (case c17 => k_is)
    (case k17 => k_is)
    (case a18 => k_is)
    (case l18 => k_is)
    (case c18 => k_is)
    (case k18 => k_is)
    (case a19 => k_is)
    (case l19 => k_is)
    (case c19 => k_is)
    (case k19 => k_is)
    (case a23 => k_is)
    (case l23 => k_is)
    (case c23 => k_is)
    (case k23 => k_is)
    (case a24 => k_is)
    (case l24 => k_is)
    (case c24 => k_is)
    (case k24 => k_is)
    (case a25 => k_is)
    (case l25 => k_is)
    (case c25 => k_is)
    (case k25 => k_is)
    (case a26 => k_is)
    (case l26 => k_is)
    (case c26 => k_is)
    (case k26 => k_is)
    (case a27 => k_is)
    (case l27 => k_is)
    (case c27 => k_is)
    (case k27 => k_is)
    (case a30 => k_is)
    (case l30 => k_is)
    (case c30 => k_is)
    (case k30 => k_is)
    (case a31 => k_is)
    (case l31 => k_is)
    (case c31 => k_is)
    (case k31 => k_is)
    (case a32 => k_is)
    (case l32 => k_is)
    (case c32 => k_is)
    (case k32 => k_is)
    (case a34 => k_is)
    (case l34 => k_is)
    (case c34 => k_is)
    (case k34 => k_is)
    (case a35 => k_is)
    (case l35 => k_is)
    (case c35 => k_is)
    (case k35 => k_is)
    (case a37 => k_is)
    (case l37 => k_is)
    (case c37 => k_is)
    (case k37 => k_is)
    (case a38 => k_is)
    (case l38 => k_is)
    (case c38 => k_is)
    (case k38 => k_is)
    (case a39 => k_is)
    (case l39 => k_is)
    (case c39 => k_is)
    (case k39 => k_is)
    (case a40 => k_is)
    (case l40 => k_is)
    (case c40 => k_is)
    (case k40 => k_is)
    (case a41 => k_is)
    (case l41 => k_is)
    (case c41 => k_is)
    (case k41 => k_is)
    (case a42 => k_is)
    (case l42 => k_is)
    (case c42 => k_is)
    (case k42 => k_is)
    (case a43 => k_is)
    (case l43 => k_is)
    (case c43 => k_is)
    (case k43 => k_is)
    (case a44 => k_is)
    (case l44 => k_is)
    (case c44 => k_is)
    (case k44 => k_is)
    (case a45 => k_is)
    (case l45 => k_is)
    (case c45 => k_is)
    (case k45 => k_is)
    (case a47 => k_is)
    (case l47 => k_is)
    (case c47 => k_is)
    (case k47 => k_is)
    (case a48 => k_is)
    (case l48 => k_is)
    (case c48 => k_is)
    (case k48 => k_is)
    (case a49 => k_is)
    (case l49 => k_is)
    (case c49 => k_is)
    (case k49 => k_is)
    (case a50 => k_is)
    (case l50 => k_is)
    (case c50 => k_is)
    (case k50 => k_is)
    (case a51 => k_is)
    (case l51 => k_is)
    (case c51 => k_is)
    (case k51 => k_is)
    (case aCH => k_is)
    (case aH0 => k_is)
    (case iH0 => k_is)
    (case lH0 => k_is)
    (case lTD => k_is)
    (case cH0 => k_is)
    (case kH0 => k_is)
    (case aH1 => k_is)
    (case iH1 => k_is)
    (case lH1 => k_is)
    (case cH1 => k_is)
    (case kH1 => k_is)
    (case aH2 => k_is)
    (case iH2 => k_is)
    (case lH2 => k_is)
    (case cH2 => k_is)
    (case kH2 => k_is)
    (case aH3 => k_is)
    (case iH3 => k_is)
    (case lH3 => k_is)
    (case cH3 => k_is)
    (case kH3 => k_is)
    (case aH4 => k_is)
    (case iH4 => k_is)
    (case lH4 => k_is)
    (case cH4 => k_is)
    (case kH4 => k_is)
    (case aH5 => k_is)
    (case iH5 => k_is)
    (case lH5 => k_is)
    (case cH5 => k_is)
    (case kH5 => k_is)
    (case aH7 => k_is)
    (case iH7 => k_is)
    (case lH7 => k_is)
    (case cH7 => k_is)
    (case kH7 => k_is)
    (case aH11 => k_is)
    (case iH11 => k_is)
    (case lH11 => k_is)
    (case cH11 => k_is)
    (case kH11 => k_is)
    (case pgH => k_is)
    (case hdH => k_is)
    (case poH => k_is)
    (case saH => k_is)
    (case mkH => k_is)
    (case kcH => k_is)
    (case nH_blind => k_is)
    (case nH_marks => k_is)
    (case aCS => k_is)
    (case aS0 => k_is)
    (case iS0 => k_is)
    (case lS0 => k_is)
    (case cS0 => k_is)
    (case kS0 => k_is)
    (case aS1 => k_is)
    (case iS1 => k_is)
    (case lS1 => k_is)
    (case cS1 => k_is)
    (case kS1 => k_is)
    (case aS2 => k_is)
    (case iS2 => k_is)
    (case lS2 => k_is)
    (case cS2 => k_is)
    (case kS2 => k_is)
    (case aS3 => k_is)
    (case iS3 => k_is)
    (case lS3 => k_is)
    (case cS3 => k_is)
    (case kS3 => k_is)
    (case aS4 => k_is)
    (case iS4 => k_is)
    (case lS4 => k_is)
    (case cS4 => k_is)
    (case kS4 => k_is)
    (case aS5 => k_is)
    (case iS5 => k_is)
    (case lS5 => k_is)
    (case cS5 => k_is)
    (case kS5 => k_is)
    (case pgS => k_is)
    (case hdS => k_is)
    (case poS => k_is)
    (case saS => k_is)
    (case mkS => k_is)
    (case kcS => k_is)
    (case nS_blind => k_is)
    (case nS_places => k_is)
    (case nS_spots => k_is)
    (case nS_moves => k_is)
    (case z_dict => k_is)
    (case z_enumerate => k_is)
    (case z_sorted => k_is)
    (case z_range => k_is)
    (case z_len => k_is)
    (case z_reversed => k_is)
    (case z_list => k_is)
    (case z_str => k_is)
    (case z_zip => k_is)
    (case z_tuple => k_is)
    (case z_max => k_is)
    (case z_min => k_is)
    (case aE => k_is)
