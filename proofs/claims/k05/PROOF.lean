import PyProof.Rows.All
import Wide.All
import OpenK.AllK
import Wide.FinOn
import KE.KStateDown
import HandS.ForMost
import HandS.Exc
import HandS.Words
import HandS.WordsExc
import HandS.Defaults
import HandS.Evl
import HandS.Deep
import HandS.SortInts
import HandS.SortRule
import HandS.Wide
import HandS.WideBits
import HandS.IsInst
import HandS.Strs
import HandS.SetFor
import HandS.TupLen
import HandS.Style
import HandS.Conv
import HandS.Flow
import HandS.Walk
import KE.KSortedM
import HandS.Head0
import HandS.Head1
import HandS.Head2
import HandS.HeadEnd
import HandS.HeadHook1
import HandS.HeadHook2
import HandS.EndBits
import HandS.TupSets
import KE.SortData
import HandS.NoneIn
import HandS.ExcIs
import PySem.Challenge.RW_surecrowd_k05_refused
set_option Elab.async false
set_option linter.all false
set_option maxRecDepth 100000
set_option maxHeartbeats 0
/-! SCA: data that an expression evaluates to; rules by data. -/
namespace SC
open PySem PySem.Spec PyProof.Rows L2 Evl

/-! ### data in the tracked heap -/
mutual
inductive Dt (H : Hp) : V → PyData → Prop
  | non : Dt H .non .none
  | bl (b : Bool) : Dt H (.bl b) (.bool b)
  | int (i : Int) : Dt H (.int i) (.int i)
  | str (x : Str) : Dt H (.str x) (.str x)
  | lst {a : Addr} {xs : List V} {ds : List PyData} : H a = some (.lst xs) → DtAll H xs ds → Dt H (.ref a) (.list ds)
  | tup {a : Addr} {xs : List V} {ds : List PyData} : H a = some (.tup xs) → DtAll H xs ds → Dt H (.ref a) (.tuple ds)
inductive DtAll (H : Hp) : List V → List PyData → Prop
  | nil : DtAll H [] []
  | cons {v : V} {vs : List V} {d : PyData} {ds : List PyData} : Dt H v d → DtAll H vs ds → DtAll H (v :: vs) (d :: ds)
end
mutual
theorem Dt.ex {H H' : Hp} (e : Ex H H') : ∀ {v : V} {d : PyData}, Dt H v d → Dt H' v d
  | _, _, .non => .non
  | _, _, .bl b => .bl b
  | _, _, .int i => .int i
  | _, _, .str x => .str x
  | _, _, .lst h a => .lst (e _ _ h) (DtAll.ex e a)
  | _, _, .tup h a => .tup (e _ _ h) (DtAll.ex e a)
theorem DtAll.ex {H H' : Hp} (e : Ex H H') : ∀ {vs : List V} {ds : List PyData}, DtAll H vs ds → DtAll H' vs ds
  | _, _, .nil => .nil
  | _, _, .cons h t => .cons (Dt.ex e h) (DtAll.ex e t)
end
mutual
theorem Dt.dp {K : PySem.W.Frag} {H : Hp} : ∀ {v : V} {d : PyData}, Dt H v d → Dp K H v d
  | _, _, .non => .non
  | _, _, .bl b => .bl b
  | _, _, .int i => .int i
  | _, _, .str x => .str x
  | _, _, .lst h a => .lst (sq_of h) (DtAll.dp a)
  | _, _, .tup h a => .tup (st_of h) (DtAll.dp a)
theorem DtAll.dp {K : PySem.W.Frag} {H : Hp} : ∀ {vs : List V} {ds : List PyData}, DtAll H vs ds → DpAll K H vs ds
  | _, _, .nil => .nil
  | _, _, .cons h t => .cons (Dt.dp h) (DtAll.dp t)
end
section
variable {H H' : Hp} {v : V} {vs ws : List V} {d : PyData} {ds es : List PyData}
theorem Dt.int_inv {i : Int} (h : Dt H v (.int i)) : v = .int i := by cases h; rfl
theorem Dt.bl_inv {b : Bool} (h : Dt H v (.bool b)) : v = .bl b := by cases h; rfl
theorem Dt.non_inv (h : Dt H v .none) : v = .non := by cases h; rfl
theorem Dt.lst_inv (h : Dt H v (.list ds)) : ∃ a xs, v = .ref a ∧ H a = some (.lst xs) ∧ DtAll H xs ds := by
  cases h with
  | lst h a => exact ⟨_, _, rfl, h, a⟩
theorem Dt.tup_inv (h : Dt H v (.tuple ds)) : ∃ a xs, v = .ref a ∧ H a = some (.tup xs) ∧ DtAll H xs ds := by
  cases h with
  | tup h a => exact ⟨_, _, rfl, h, a⟩
theorem DtAll.length : ∀ {vs : List V} {ds : List PyData}, DtAll H vs ds → vs.length = ds.length
  | _, _, .nil => rfl
  | _, _, .cons _ t => congrArg Nat.succ (DtAll.length t)
theorem DtAll.append : ∀ {vs : List V} {ds : List PyData}, DtAll H vs ds → DtAll H ws es → DtAll H (vs ++ ws) (ds ++ es)
  | _, _, .nil, k => k
  | _, _, .cons h t, k => .cons h (DtAll.append t k)
theorem DtAll.get : ∀ {vs : List V} {ds : List PyData} {i : Nat} {d : PyData}, DtAll H vs ds → ds[i]? = some d → ∃ v, vs[i]? = some v ∧ Dt H v d
  | _, _, _, _, .nil, e => by cases e
  | _, _, 0, _, .cons h _, e => by
    cases e
    exact ⟨_, rfl, h⟩
  | _, _, i + 1, d, .cons _ t, e => DtAll.get (i := i) t e
theorem DtAll.get' : ∀ {vs : List V} {ds : List PyData} {i : Nat} {v : V}, DtAll H vs ds → vs[i]? = some v → ∃ d, ds[i]? = some d ∧ Dt H v d
  | _, _, _, _, .nil, e => by cases e
  | _, _, 0, _, .cons h _, e => by
    cases e
    exact ⟨_, rfl, h⟩
  | _, _, i + 1, d, .cons _ t, e => DtAll.get' (i := i) t e
theorem DtAll.drop : ∀ {vs : List V} {ds : List PyData} (n : Nat), DtAll H vs ds → DtAll H (vs.drop n) (ds.drop n)
  | _, _, 0, h => h
  | _, _, _ + 1, .nil => .nil
  | _, _, n + 1, .cons _ t => DtAll.drop n t
theorem DtAll.take : ∀ {vs : List V} {ds : List PyData} (n : Nat), DtAll H vs ds → DtAll H (vs.take n) (ds.take n)
  | _, _, 0, _ => .nil
  | _, _, _ + 1, .nil => .nil
  | _, _, n + 1, .cons h t => .cons h (DtAll.take n t)
theorem DtAll.reverse : ∀ {vs : List V} {ds : List PyData}, DtAll H vs ds → DtAll H vs.reverse ds.reverse
  | _, _, .nil => .nil
  | _, _, .cons h t => by
    rw [List.reverse_cons, List.reverse_cons]
    exact DtAll.append (DtAll.reverse t) (.cons h .nil)
theorem DtAll.one (h : DtAll H vs [d]) : ∃ v, vs = [v] ∧ Dt H v d := by
  cases h with
  | cons a t =>
    cases t
    exact ⟨_, rfl, a⟩
theorem DtAll.two {d2 : PyData} (h : DtAll H vs [d, d2]) : ∃ v v2, vs = [v, v2] ∧ Dt H v d ∧ Dt H v2 d2 := by
  cases h with
  | cons a t =>
    obtain ⟨v2, rfl, b⟩ := DtAll.one t
    exact ⟨_, _, rfl, a, b⟩
theorem DtAll.three {d2 d3 : PyData} (h : DtAll H vs [d, d2, d3]) : ∃ v v2 v3, vs = [v, v2, v3] ∧ Dt H v d ∧ Dt H v2 d2 ∧ Dt H v3 d3 := by
  cases h with
  | cons a t =>
    obtain ⟨v2, v3, rfl, b, c⟩ := DtAll.two t
    exact ⟨_, _, _, rfl, a, b, c⟩
/-- iL as data -/
def iL (ns : List Int) : List PyData := ns.map PyData.int
def bL (bs : List Bool) : List PyData := bs.map PyData.bool
theorem DtAll.iL_inv : ∀ {vs : List V} {ns : List Int}, DtAll H vs (iL ns) → vs = ns.map V.int
  | vs, [], h => by
    cases h
    rfl
  | vs, n :: ns, h => by
    have h' : DtAll H vs (.int n :: iL ns) := h
    cases h' with
    | cons a t =>
      rw [Dt.int_inv a, DtAll.iL_inv t]
      rfl
theorem DtAll.iL_mk : ∀ (ns : List Int), DtAll H (ns.map V.int) (iL ns)
  | [] => .nil
  | n :: ns => .cons (.int n) (DtAll.iL_mk ns)
theorem DtAll.bL_inv : ∀ {vs : List V} {ns : List Bool}, DtAll H vs (bL ns) → vs = ns.map V.bl
  | vs, [], h => by
    cases h
    rfl
  | vs, n :: ns, h => by
    have h' : DtAll H vs (.bool n :: bL ns) := h
    cases h' with
    | cons a t =>
      rw [Dt.bl_inv a, DtAll.bL_inv t]
      rfl
end

/-! ### what an expression evaluates to; n: a new object -/
def Fr (n : Bool) (H : Hp) (v : V) : Prop := n = true → ∃ p, v = .ref p ∧ H p = none
theorem Fr.back {n : Bool} {H H1 : Hp} {v : V} (e : Ex H H1) (h : Fr n H1 v) : Fr n H v := fun z => by
  obtain ⟨p, e1, e2⟩ := h z
  exact ⟨p, e1, fresh_back e e2⟩
theorem Fr.no {H : Hp} {v : V} : Fr false H v := fun z => nomatch z
/-- what follows an evaluation to d from H -/
def Kd (n : Bool) (d : PyData) (H : Hp) (Q : VK) : Prop := ∀ v H2, Ex H H2 → Dt H2 v d → Fr n H v → Q v H2
theorem Kd.back {n : Bool} {d : PyData} {H H1 : Hp} {Q : VK} (e : Ex H H1) (k : Kd n d H Q) : Kd n d H1 Q := fun v H2 e2 h f => k v H2 (e.trans e2) h (f.back e)
def EvR (n : Bool) (te : TE) (σ : L2.St) (H : Hp) (d : PyData) : Prop := ∀ H1, Ex H H1 → ∀ Q : VK, Kd n d H1 Q → te σ H1 Q
abbrev EvD := EvR false
/-- arguments -/
def EvAs (ta : TA) (σ : L2.St) (H : Hp) (ds : List PyData) : Prop := ∀ H1, Ex H H1 → ∀ Q : List V → Hp → Prop, (∀ vs H2, Ex H1 H2 → DtAll H2 vs ds → Q vs H2) → ta σ H1 Q
/-- operations by data -/
def RD (n : Bool) (r : R2) (x y : PyData) (H : Hp) (d : PyData) : Prop := ∀ u v H1, Ex H H1 → Dt H1 u x → Dt H1 v y → ∀ Q : VK, Kd n d H1 Q → r u v H1 Q
def RCD (n : Bool) (r : List V → Hp → VK → Prop) (ds : List PyData) (H : Hp) (d : PyData) : Prop := ∀ vs H1, Ex H H1 → DtAll H1 vs ds → ∀ Q : VK, Kd n d H1 Q → r vs H1 Q
def SpR (n : Bool) (sp : Sp) (ds : List PyData) (H : Hp) (d : PyData) : Prop := ∀ vs H1, Ex H H1 → DtAll H1 vs ds → ∀ Q : VK, Kd n d H1 Q → ∀ E : XK, sp vs H1 Q E
section
variable {n : Bool} {K : PySem.W.Frag} {σ : L2.St} {H H' : Hp} {ta tb te : TE} {t u : TT} {x y v : V} {r r' : R2} {d e dx dy : PyData} {ds es : List PyData} {tas : TA}
theorem EvR.mono (e : Ex H H') (h : EvR n te σ H d) : EvR n te σ H' d := fun H1 a Q q => h H1 (e.trans a) Q q
theorem EvR.weak (h : EvR n te σ H d) : EvD te σ H d := fun H1 a Q q => h H1 a Q fun v H2 e2 hd _ => q v H2 e2 hd Fr.no
theorem EvR.is {d' : PyData} (h : EvR n te σ H d) (e : d = d') : EvR n te σ H d' := e ▸ h
theorem d_var {i : Nat} (h : σ[i]? = some (some v)) (hd : Dt H v d) : EvD (tVar i) σ H d := fun H1 e Q q => ⟨v, h, q v H1 (Ex.refl H1) (hd.ex e) Fr.no⟩
theorem d_vI {i : Nat} {k : Int} (h : σ[i]? = some (some (.int k))) : EvD (tVar i) σ H (.int k) := d_var h (.int k)
theorem d_vB {i : Nat} {k : Bool} (h : σ[i]? = some (some (.bl k))) : EvD (tVar i) σ H (.bool k) := d_var h (.bl k)
theorem d_int {i : Int} : EvD (tC (.int i)) σ H (.int i) := fun H1 _ _ q => q _ H1 (Ex.refl H1) (.int i) Fr.no
theorem d_bl {b : Bool} : EvD (tC (.bl b)) σ H (.bool b) := fun H1 _ _ q => q _ H1 (Ex.refl H1) (.bl b) Fr.no
theorem d_non : EvD (tC .non) σ H .none := fun H1 _ _ q => q _ H1 (Ex.refl H1) .non Fr.no
theorem d_str {z : Str} : EvD (tC (.str z)) σ H (.str z) := fun H1 _ _ q => q _ H1 (Ex.refl H1) (.str z) Fr.no
theorem d_op (ha : EvD ta σ H dx) (hb : EvD tb σ H dy) (hr : RD n r dx dy H d) : EvR n (tOp r ta tb) σ H d := fun H1 e1 Q q =>
  ha H1 e1 _ fun u H2 e2 hu _ => hb H2 (e1.trans e2) _ fun v H3 e3 hv _ => hr u v H3 ((e1.trans e2).trans e3) (hu.ex e3) hv Q (q.back (e2.trans e3))
theorem RD.lf (h : RD n r dx dy H d) : RD n (fun x y H Q => r x y H Q ∨ r' x y H Q) dx dy H d := fun u v H1 e hu hv Q q => .inl (h u v H1 e hu hv Q q)
theorem RD.rg (h : RD n r' dx dy H d) : RD n (fun x y H Q => r x y H Q ∨ r' x y H Q) dx dy H d := fun u v H1 e hu hv Q q => .inr (h u v H1 e hu hv Q q)
theorem rd_i0 {g : Int → Int → Int} {i j : Int} : RD false (rI0 fun i j => .int (g i j)) (.int i) (.int j) H (.int (g i j)) := fun u v H1 _ hu hv Q q =>
  ⟨i, j, hu.int_inv, hv.int_inv, q _ H1 (Ex.refl H1) (.int _) Fr.no⟩
theorem rd_b0 {g : Int → Int → Bool} {i j : Int} : RD false (rI0 fun i j => .bl (g i j)) (.int i) (.int j) H (.bool (g i j)) := fun u v H1 _ hu hv Q q =>
  ⟨i, j, hu.int_inv, hv.int_inv, q _ H1 (Ex.refl H1) (.bl _) Fr.no⟩
theorem rd_i {C : Int → Int → Prop} {g : Int → Int → Int} {i j : Int} (hc : C i j) : RD false (rI C fun i j => .int (g i j)) (.int i) (.int j) H (.int (g i j)) := fun u v H1 _ hu hv Q q =>
  ⟨i, j, hu.int_inv, hv.int_inv, hc, q _ H1 (Ex.refl H1) (.int _) Fr.no⟩
theorem rd_eqD (sx : SeqAt.shaped dx = true) (sy : SeqAt.shaped dy = true) : RD false (rEqD K) dx dy H (.bool (PyData.eqv dx dy)) := fun u v H1 _ hu hv Q q =>
  ⟨dx, dy, hu.dp, hv.dp, sx, sy, q _ H1 (Ex.refl H1) (.bl _) Fr.no⟩
theorem rd_neD (sx : SeqAt.shaped dx = true) (sy : SeqAt.shaped dy = true) : RD false (rNeD K) dx dy H (.bool (!PyData.eqv dx dy)) := fun u v H1 _ hu hv Q q =>
  ⟨dx, dy, hu.dp, hv.dp, sx, sy, q _ H1 (Ex.refl H1) (.bl _) Fr.no⟩
theorem rd_inD (sx : SeqAt.shaped dx = true) (sy : SeqAt.shaped (.list ds) = true) : RD false (rInD K) dx (.list ds) H (.bool (ds.any fun z => PyData.eqv z dx)) := fun u v H1 _ hu hv Q q =>
  ⟨dx, ds, hu.dp, hv.dp, sx, sy, q _ H1 (Ex.refl H1) (.bl _) Fr.no⟩
theorem rd_notInD (sx : SeqAt.shaped dx = true) (sy : SeqAt.shaped (.list ds) = true) : RD false (rNotInD K) dx (.list ds) H (.bool (!ds.any fun z => PyData.eqv z dx)) := fun u v H1 _ hu hv Q q =>
  ⟨dx, ds, hu.dp, hv.dp, sx, sy, q _ H1 (Ex.refl H1) (.bl _) Fr.no⟩
theorem rd_cat (hz : ds.length + es.length ≤ 1000000) : RD true rCat (.list ds) (.list es) H (.list (ds ++ es)) := fun u v H1 _ hu hv Q q => by
  obtain ⟨a, xs, rfl, ha, hx⟩ := hu.lst_inv
  obtain ⟨b, ys, rfl, hb, hy⟩ := hv.lst_inv
  refine ⟨a, b, xs, ys, rfl, rfl, ha, hb, ?_, fun p hp => q _ _ (Ex.new hp) (.lst upd_same ?_) fun _ => ⟨p, rfl, hp⟩⟩
  · rw [hx.length, hy.length]
    exact Nat.le_trans hz (by decide)
  · exact (hx.append hy).ex (Ex.new hp)
theorem rd_ixL {i : Int} (h : atI ds i = some d) : RD false (rIxL K) (.list ds) (.int i) H d := fun u v H1 _ hu hv Q q => by
  obtain ⟨a, xs, rfl, ha, hx⟩ := hu.lst_inv
  cases hv.int_inv
  unfold atI at h
  cases hk : ixN ds.length i with
  | none =>
    rw [hk] at h
    cases h
  | some j =>
    rw [hk] at h
    obtain ⟨w, hw, hd⟩ := hx.get (show ds[j]? = some d from h)
    refine ⟨a, xs, i, w, rfl, rfl, sq_of ha, ?_, q _ H1 (Ex.refl H1) hd Fr.no⟩
    unfold atI
    rw [hx.length, hk]
    exact hw
theorem rd_ixT {i : Int} (h : atI ds i = some d) : RD false (rIxT K) (.tuple ds) (.int i) H d := fun u v H1 _ hu hv Q q => by
  obtain ⟨a, xs, rfl, ha, hx⟩ := hu.tup_inv
  cases hv.int_inv
  unfold atI at h
  cases hk : ixN ds.length i with
  | none =>
    rw [hk] at h
    cases h
  | some j =>
    rw [hk] at h
    obtain ⟨w, hw, hd⟩ := hx.get (show ds[j]? = some d from h)
    refine ⟨a, xs, i, w, rfl, rfl, st_of ha, ?_, q _ H1 (Ex.refl H1) hd Fr.no⟩
    unfold atI
    rw [hx.length, hk]
    exact hw
/-! arguments, calls -/
theorem da_nil : EvAs tNil σ H [] := fun H1 _ _ q => q [] H1 (Ex.refl H1) .nil
theorem da_cons (h : EvD ta σ H d) (ht : EvAs tas σ H ds) : EvAs (tCons ta tas) σ H (d :: ds) := fun H1 e1 Q q =>
  h H1 e1 _ fun v H2 e2 hv _ => ht H2 (e1.trans e2) _ fun vs H3 e3 hvs => q _ H3 (e2.trans e3) (.cons (hv.ex e3) hvs)
theorem EvAs.mono (e : Ex H H') (h : EvAs tas σ H ds) : EvAs tas σ H' ds := fun H1 a Q q => h H1 (e.trans a) Q q
theorem d_cb {r : List V → Hp → VK → Prop} (h : EvAs tas σ H ds) (hr : RCD n r ds H d) : EvR n (tCB r tas) σ H d := fun H1 e1 Q q =>
  h H1 e1 _ fun vs H2 e2 hv => hr vs H2 (e1.trans e2) hv Q (q.back e2)
theorem RCD.lf {r r' : List V → Hp → VK → Prop} (h : RCD n r ds H d) : RCD n (fun xs H Q => r xs H Q ∨ r' xs H Q) ds H d := fun vs H1 e hv Q q => .inl (h vs H1 e hv Q q)
theorem RCD.rg {r r' : List V → Hp → VK → Prop} (h : RCD n r' ds H d) : RCD n (fun xs H Q => r xs H Q ∨ r' xs H Q) ds H d := fun vs H1 e hv Q q => .inr (h vs H1 e hv Q q)
theorem d_call {sp : Sp} {E : XK} (h : EvAs tas σ H ds) (hs : SpR n sp ds H d) : EvR n (tCall sp [] E tas) σ H d := fun H1 e1 Q q =>
  h H1 e1 _ fun vs H2 e2 hv => by
    show sp (vs ++ []) H2 Q E
    rw [List.append_nil]
    exact hs vs H2 (e1.trans e2) hv Q (q.back e2) E
theorem d_tup (h : EvAs tas σ H ds) (hl : ds.length ≤ 1000000) : EvR true (tTup tas) σ H (.tuple ds) := fun H1 e1 Q q =>
  h H1 e1 _ fun vs H2 e2 hv => ⟨by rw [hv.length]; exact Nat.le_trans hl (by decide), fun p hp => q _ _ (e2.trans (Ex.new hp)) (.tup upd_same (hv.ex (Ex.new hp))) fun _ => ⟨p, rfl, fresh_back e2 hp⟩⟩
theorem d_lst (h : EvAs tas σ H ds) (hl : ds.length ≤ 1000000) : EvR true (tLst tas) σ H (.list ds) := fun H1 e1 Q q =>
  h H1 e1 _ fun vs H2 e2 hv => ⟨by rw [hv.length]; exact Nat.le_trans hl (by decide), fun p hp => q _ _ (e2.trans (Ex.new hp)) (.lst upd_same (hv.ex (Ex.new hp))) fun _ => ⟨p, rfl, fresh_back e2 hp⟩⟩
/-! slices -/
def EvPart (to : TO) (σ : L2.St) (H : Hp) (o : Option Int) : Prop := ∀ H1, Ex H H1 → ∀ Q : Option Int → Hp → Prop, (∀ H2, Ex H1 H2 → Q o H2) → to σ H1 Q
theorem dp_none : EvPart tNoPart σ H none := fun H1 _ _ q => q H1 (Ex.refl H1)
theorem dp_some {i : Int} (h : EvD te σ H (.int i)) : EvPart (tPart te) σ H (some i) := fun H1 e _ q => h H1 e _ fun v H2 e2 hv _ => ⟨i, hv.int_inv, q H2 e2⟩
def cutD (ds : List PyData) (lo hi : Option Int) : List PyData := (ds.drop (HT.sIx ds.length 0 lo)).take (HT.sIx ds.length ds.length hi - HT.sIx ds.length 0 lo)
theorem d_slice {tl th : TO} {lo hi : Option Int} (h : EvD te σ H (.list ds)) (h1 : EvPart tl σ H lo) (h2 : EvPart th σ H hi) : EvR true (tSl (rSlL K) te tl th) σ H (.list (cutD ds lo hi)) := fun H1 e1 Q q =>
  h H1 e1 _ fun v H2 e2 hv _ => h1 H2 (e1.trans e2) _ fun H3 e3 => h2 H3 ((e1.trans e2).trans e3) _ fun H4 e4 => by
    obtain ⟨a, xs, rfl, ha, hx⟩ := hv.lst_inv
    refine ⟨a, xs, rfl, sq_of (e4 _ _ (e3 _ _ ha)), fun p hp => q _ _ (((e2.trans e3).trans e4).trans (Ex.new hp)) (.lst upd_same ?_) fun _ => ⟨p, rfl, fresh_back ((e2.trans e3).trans e4) hp⟩⟩
    unfold cutV cutD
    rw [hx.length]
    exact (((hx.drop _).take _).ex (e3.trans e4)).ex (Ex.new hp)
/-! tests, and, or, not, if -/
theorem t_B {b : Bool} (h : EvD te σ H (.bool b)) : EvT (tB te) σ H b := fun H1 e _ q => h H1 e _ fun v H2 e2 hv _ => ⟨b, hv.bl_inv, q H2 e2⟩
theorem t_test {b : Bool} (h : EvD te σ H (.bool b)) : EvT (tTest te) σ H b := fun H1 e _ q => h H1 e _ fun v H2 e2 hv _ => ⟨b, hv.bl_inv, q H2 e2⟩
theorem d_and {a b : Bool} (h1 : EvD ta σ H (.bool a)) (h2 : a = true → EvD tb σ H (.bool b)) : EvD (tAndV ta tb) σ H (.bool (a && b)) := fun H1 e Q q => h1 H1 e _ fun v H2 e2 hv _ => ⟨a, hv.bl_inv, by
  cases a with
  | true =>
    show tb σ H2 Q
    exact h2 rfl H2 (e.trans e2) Q (q.back e2)
  | false =>
    show Q (.bl false) H2
    exact q _ H2 e2 (.bl _) Fr.no⟩
theorem d_or {a b : Bool} (h1 : EvD ta σ H (.bool a)) (h2 : a = false → EvD tb σ H (.bool b)) : EvD (tOrV ta tb) σ H (.bool (a || b)) := fun H1 e Q q => h1 H1 e _ fun v H2 e2 hv _ => ⟨a, hv.bl_inv, by
  cases a with
  | true =>
    show Q (.bl true) H2
    exact q _ H2 e2 (.bl _) Fr.no
  | false =>
    show tb σ H2 Q
    exact h2 rfl H2 (e.trans e2) Q (q.back e2)⟩
theorem d_not {a : Bool} (h1 : EvD ta σ H (.bool a)) : EvD (tNotV ta) σ H (.bool (!a)) := fun H1 e _ q => h1 H1 e _ fun v H2 e2 hv _ => ⟨a, hv.bl_inv, q _ H2 e2 (.bl _) Fr.no⟩
theorem d_if {b : Bool} (h : EvT t σ H b) (h1 : b = true → EvR n ta σ H d) (h2 : b = false → EvR n tb σ H d) : EvR n (tIf t ta tb) σ H d := fun H1 e Q q => h H1 e _ fun H2 e2 => by
  cases b with
  | true =>
    show ta σ H2 Q
    exact h1 rfl H2 (e.trans e2) Q (q.back e2)
  | false =>
    show tb σ H2 Q
    exact h2 rfl H2 (e.trans e2) Q (q.back e2)
theorem d_neg {i : Int} (h : EvD te σ H (.int i)) : EvD (tUn (rU fun i => .int (-i)) te) σ H (.int (-i)) := fun H1 e Q q => h H1 e _ fun v H2 e2 hv _ => ⟨i, hv.int_inv, q _ H2 e2 (.int _) Fr.no⟩
theorem d_chain {ta tb tc : TE} {a b : Bool} (ha : EvD ta σ H dx) (hb : EvD tb σ H dy) (hr : RD false r dx dy H (.bool a)) (hc : a = true → EvD tc σ H d) (hr' : a = true → RD false r' dy d H (.bool b)) : EvD (tChain r r' ta tb tc) σ H (.bool (a && b)) := fun H1 e1 Q q =>
  ha H1 e1 _ fun u H2 e2 hu _ => hb H2 (e1.trans e2) _ fun v H3 e3 hv _ => hr u v H3 ((e1.trans e2).trans e3) (hu.ex e3) hv _ fun z H4 e4 hz _ => ⟨a, hz.bl_inv, by
    cases a with
    | true =>
      show tc σ H4 _
      exact hc rfl H4 (((e1.trans e2).trans e3).trans e4) _ fun w H5 e5 hw _ => hr' rfl v w H5 ((((e1.trans e2).trans e3).trans e4).trans e5) (hv.ex (e4.trans e5)) hw Q (q.back (((e2.trans e3).trans e4).trans e5))
    | false =>
      show Q (.bl false) H4
      exact q _ H4 ((e2.trans e3).trans e4) (.bl _) Fr.no⟩
/-! statements -/
variable {D : Ends} {tu tw tz : TS} {g : TG}
theorem q_let {i : Nat} (h : EvR n te σ H d) (k : ∀ v H1, Ex H H1 → Dt H1 v d → Fr n H v → tz D (σ.set i (some v)) H1) : tSeq (tAsg te (gName i)) tz D σ H := h H (Ex.refl H) _ k
theorem q_letI {i : Nat} {k : Int} (h : EvD te σ H (.int k)) (q : ∀ H1, Ex H H1 → tz D (σ.set i (some (.int k))) H1) : tSeq (tAsg te (gName i)) tz D σ H := q_let h fun v H1 e hv _ => by
  rw [hv.int_inv]
  exact q H1 e
theorem q_letB {i : Nat} {k : Bool} (h : EvD te σ H (.bool k)) (q : ∀ H1, Ex H H1 → tz D (σ.set i (some (.bl k))) H1) : tSeq (tAsg te (gName i)) tz D σ H := q_let h fun v H1 e hv _ => by
  rw [hv.bl_inv]
  exact q H1 e
theorem s_let {i : Nat} (h : EvR n te σ H d) (k : ∀ v H1, Ex H H1 → Dt H1 v d → Fr n H v → D.nx (σ.set i (some v)) H1) : tAsg te (gName i) D σ H := h H (Ex.refl H) _ k
theorem s_letI {i : Nat} {k : Int} (h : EvD te σ H (.int k)) (q : ∀ H1, Ex H H1 → D.nx (σ.set i (some (.int k))) H1) : tAsg te (gName i) D σ H := s_let h fun v H1 e hv _ => by
  rw [hv.int_inv]
  exact q H1 e
theorem r_d (h : EvR n te σ H d) (k : Kd n d H D.rt) : tRet te D σ H := h H (Ex.refl H) _ k
theorem s_dropD (h : EvR n te σ H d) (k : ∀ H1, Ex H H1 → D.nx σ H1) : tDrop te D σ H := h H (Ex.refl H) _ fun v H1 e _ _ => k H1 e
theorem q_dropD (h : EvR n te σ H d) (k : ∀ H1, Ex H H1 → tz D σ H1) : tSeq (tDrop te) tz D σ H := h H (Ex.refl H) _ fun v H1 e _ _ => k H1 e
end
end SC

/-! SCB: universal operations, built-ins by data, comprehensions, loops. -/
namespace SC
open PySem PySem.Spec PyProof.Rows L2 Evl

/-! ### more of the model: chains of three, dicts by operators -/
section
variable {X : Cx} {a b c d : Expr} {ta tb tc td : TE} {pos : Pos}
def tChain3 (r r' r'' : R2) (ta tb tc td : TE) : TE := fun σ H Q => ta σ H fun x H1 => tb σ H1 fun y H2 => r x y H2 fun z H3 => ∃ k, z = .bl k ∧
  (if k = true then tc σ H3 fun w H4 => r' y w H4 fun z' H5 => ∃ k', z' = .bl k' ∧ (if k' = true then td σ H5 fun w' H6 => r'' w w' H6 Q else Q (.bl false) H5) else Q (.bl false) H3)
theorem pe_chain3 {op op' op'' : CmpOp} {r r' r'' : R2} (ho : OpR X (compareOp op) r) (ho' : OpR X (compareOp op') r') (ho'' : OpR X (compareOp op'') r'') (ha : PE X a ta) (hb : PE X b tb) (hc : PE X c tc) (hd : PE X d td)
    (hm : lastMarks [op, op', op''] [b, c, d] = false := by with_unfolding_all rfl) : PE X (.Compare a [op, op', op''] [b, c, d] pos) (tChain3 r r' r'' ta tb tc td) := by
  refine ⟨fun pins s σ H Q I h => ?_⟩
  refine Compare_chain (thn (ha.run pins s σ H _ I h) fun v s1 ⟨x, H1, I1, r1, q1⟩ => chain_link (thn (hb.run pins s1 σ H1 _ I1 q1) fun u s2 ⟨y, H2, I2, r2, q2⟩ =>
    thn (ho pins s2 σ H2 x y v u _ I2 r1 r2 q2) fun d s3 ⟨z, H3, I3, r3, k, e, q3⟩ => ?_)) hm
  subst e
  cases r3
  refine wpAny_truthy_bool ?_
  cases k with
  | false => exact ite_ff ⟨.bl false, H3, I3, rfl, q3⟩
  | true =>
    refine ite_tt (chain_link (thn (hc.run pins s3 σ H3 _ I3 q3) fun w' s4 ⟨z', H4, I4, r4, q4⟩ => thn (ho' pins s4 σ H4 y z' u w' _ I4 r2 r4 q4) fun d' s5 ⟨z2, H5, I5, r5, k2, e2, q5⟩ => ?_))
    subst e2
    cases r5
    refine wpAny_truthy_bool ?_
    cases k2 with
    | false => exact ite_ff ⟨.bl false, H5, I5, rfl, q5⟩
    | true => exact ite_tt (chain_last (thn (hd.run pins s5 σ H5 _ I5 q5) fun w6 s6 ⟨z6, H6, I6, r6, q6⟩ => ho'' pins s6 σ H6 z' z6 w' w6 Q I6 r4 r6 q6))
/-- k in d, k not in d -/
def rDin : R2 := fun x y H Q => ∃ a o, y = .ref a ∧ DGet H a x o ∧ Q (.bl o.isSome) H
def rDnotin : R2 := fun x y H Q => ∃ a o, y = .ref a ∧ DGet H a x o ∧ Q (.bl (!o.isSome)) H
theorem op_din (hu : X.A.units + 1 < cLine) : OpR X (compareOp .In) rDin := by
  intro pins s σ H x y v u Q I rx ry h
  obtain ⟨a, o, rfl, g, q⟩ := h
  cases ry
  exact d_in hu I g rx fun s' I' => ⟨.bl o.isSome, H, I', rfl, q⟩
theorem op_dnotin (hu : X.A.units + 1 < cLine) : OpR X (compareOp .NotIn) rDnotin := by
  intro pins s σ H x y v u Q I rx ry h
  obtain ⟨a, o, rfl, g, q⟩ := h
  cases ry
  exact d_notIn hu I g rx fun s' I' => ⟨.bl (!o.isSome), H, I', rfl, q⟩
end
/-! ### the universal operations -/
def rUAdd : R2 := fun x y H Q => rI0 (fun i j => .int (i + j)) x y H Q ∨ rCat x y H Q
def rUIn (K : PySem.W.Frag) : R2 := fun x y H Q => rInD K x y H Q ∨ (rIn K false x y H Q ∨ rDin x y H Q)
def rUNotIn (K : PySem.W.Frag) : R2 := fun x y H Q => rNotInD K x y H Q ∨ (rIn K true x y H Q ∨ rDnotin x y H Q)
def rUIx (K : PySem.W.Frag) : R2 := fun x y H Q => rIxL K x y H Q ∨ rIxT K x y H Q
section
variable {X : Cx}
theorem op_uAdd : OpR X (binaryOp .Add) rUAdd := op_add.or op_cat
theorem op_uIn (hu : X.A.units + 65 < cLine) : OpR X (compareOp .In) (rUIn X.K) := (op_inD hu).or (op_in_seq.or (op_din (by omega)))
theorem op_uNotIn (hu : X.A.units + 65 < cLine) : OpR X (compareOp .NotIn) (rUNotIn X.K) := (op_notInD hu).or (op_notIn_seq.or (op_dnotin (by omega)))
theorem ix_u : IxR X (rUIx X.K) := ix_list.or ix_tup
theorem hu65 {A : Around} {k : Nat} (hr : Room k A) : A.units + 65 < cLine := by have := hr.un; omega
theorem hu64 {A : Around} {k : Nat} (hr : Room k A) : A.units + 64 < cLine := by have := hr.un; omega
end
section
variable {n : Bool} {K : PySem.W.Frag} {σ : L2.St} {H H' : Hp} {ta tb te tl : TE} {t u : TT} {x y v : V} {r r' : R2} {d e dx dy : PyData} {ds es : List PyData} {tas : TA}
theorem rd_addI {i j : Int} : RD false rUAdd (.int i) (.int j) H (.int (i + j)) := RD.lf rd_i0
theorem rd_addL (hz : ds.length + es.length ≤ 1000000) : RD true rUAdd (.list ds) (.list es) H (.list (ds ++ es)) := RD.rg (rd_cat hz)
theorem rd_uIxL {i : Int} (h : atI ds i = some d) : RD false (rUIx K) (.list ds) (.int i) H d := RD.lf (rd_ixL h)
theorem rd_uIxT {i : Int} (h : atI ds i = some d) : RD false (rUIx K) (.tuple ds) (.int i) H d := RD.rg (rd_ixT h)
theorem rd_uInL (sx : SeqAt.shaped dx = true) (sy : SeqAt.shaped (.list ds) = true) : RD false (rUIn K) dx (.list ds) H (.bool (ds.any fun z => PyData.eqv z dx)) := RD.lf (rd_inD sx sy)
theorem rd_uNotInL (sx : SeqAt.shaped dx = true) (sy : SeqAt.shaped (.list ds) = true) : RD false (rUNotIn K) dx (.list ds) H (.bool (!ds.any fun z => PyData.eqv z dx)) := RD.lf (rd_notInD sx sy)
/-! ### flat data -/
mutual
def flatD : PyData → Bool
  | .list _ => false
  | .tuple ds => flatAll ds
  | .none => true
  | .bool _ => true
  | .int _ => true
  | .str _ => true
  | _ => false
def flatAll : List PyData → Bool
  | [] => true
  | d :: ds => flatD d && flatAll ds
end
mutual
theorem Dt.updF {H : Hp} {a : Addr} {o : HO} {ys : List V} (ha : H a = some (.lst ys)) : ∀ {v : V} {d : PyData}, flatD d = true → Dt H v d → Dt (upd H a o) v d
  | _, _, _, .non => .non
  | _, _, _, .bl b => .bl b
  | _, _, _, .int i => .int i
  | _, _, _, .str x => .str x
  | _, .list ds, f, .lst h k => by
    have f' : false = true := f
    cases f'
  | _, .tuple ds, f, .tup (a := b) h k => .tup (by rw [upd_ne (ne_of h ha (by intro q; cases q))]; exact h) (DtAll.updF ha (show flatAll ds = true from f) k)
theorem DtAll.updF {H : Hp} {a : Addr} {o : HO} {ys : List V} (ha : H a = some (.lst ys)) : ∀ {vs : List V} {ds : List PyData}, flatAll ds = true → DtAll H vs ds → DtAll (upd H a o) vs ds
  | _, _, _, .nil => .nil
  | _, d :: ds, f, .cons h t => by
    obtain ⟨f1, f2⟩ := Bool.and_eq_true_iff.mp (show (flatD d && flatAll ds) = true from f)
    exact .cons (Dt.updF ha f1 h) (DtAll.updF ha f2 t)
end
theorem flatAll_append : ∀ {ds es : List PyData}, flatAll (ds ++ es) = (flatAll ds && flatAll es)
  | [], es => by simp [flatAll]
  | d :: ds, es => by
    show (flatD d && flatAll (ds ++ es)) = ((flatD d && flatAll ds) && flatAll es)
    rw [flatAll_append, Bool.and_assoc]
theorem flatAll_mem : ∀ {ds : List PyData}, (∀ d ∈ ds, flatD d = true) → flatAll ds = true
  | [], _ => rfl
  | d :: ds, h => by
    show (flatD d && flatAll ds) = true
    rw [h d List.mem_cons_self, flatAll_mem fun z hz => h z (List.mem_cons_of_mem _ hz)]
    rfl
/-- a list of flat data at another place -/
theorem Dt.updL {H : Hp} {a p : Addr} {o : HO} {ys : List V} (ha : H a = some (.lst ys)) (hp : p ≠ a) (f : flatAll ds = true) (h : Dt H (.ref p) (.list ds)) : Dt (upd H a o) (.ref p) (.list ds) := by
  obtain ⟨q, xs, e, hq, hx⟩ := h.lst_inv
  cases e
  exact .lst (by rw [upd_ne hp]; exact hq) (hx.updF ha f)

/-! ### a walk that gives data -/
/-- wi walks what gives ds, one behind another, while what stands behind it stays -/
def DW (wi : TI) (σ : L2.St) (H : Hp) (ds : List PyData) : Prop := ∀ H1, Ex H H1 → ∀ R : It → Hp → Prop,
  (∀ J H2, Ex H1 H2 → Walk J ds.length (fun H' => Ex H2 H') (fun i H3 x H4 => Ex H3 H4 ∧ ∃ d, ds[i]? = some d ∧ Dt H4 x d) → R J H2) → wi σ H1 R
theorem DW.mono {wi : TI} (e : Ex H H') (h : DW wi σ H ds) : DW wi σ H' ds := fun H1 a R k => h H1 (e.trans a) R k
theorem dw_list (h : EvD tl σ H (.list ds)) : DW (iList K tl) σ H ds := fun H1 e1 R k => h H1 e1 _ fun v H2 e2 hv _ => by
  obtain ⟨a, xs, rfl, ha, hx⟩ := hv.lst_inv
  refine ⟨a, rfl, ⟨xs, sq_of ha⟩, k _ H2 e2 ?_⟩
  rw [← hx.length]
  exact walk_list.mono (fun H' g => sq_of (g _ _ ha)) fun i H' x H'' hi g ⟨y1, y2⟩ => by
    subst y1
    obtain ⟨d, h1, h2⟩ := (hx.ex g).get' y2
    exact ⟨Ex.refl _, d, h1, h2⟩
theorem dw_tup (h : EvD tl σ H (.tuple ds)) : DW (iTup K tl) σ H ds := fun H1 e1 R k => h H1 e1 _ fun v H2 e2 hv _ => by
  obtain ⟨a, xs, rfl, ha, hx⟩ := hv.tup_inv
  refine ⟨a, rfl, ⟨xs, st_of ha⟩, k _ H2 e2 ?_⟩
  rw [← hx.length]
  exact walk_tup.mono (fun H' g => st_of (g _ _ ha)) fun i H' x H'' hi g ⟨y1, y2⟩ => by
    subst y1
    obtain ⟨d, h1, h2⟩ := (hx.ex g).get' y2
    exact ⟨Ex.refl _, d, h1, h2⟩
/-- range data -/
def rgD (lo hi : Int) : List PyData := (List.range (hi - lo).toNat).map fun i => .int (lo + (i : Nat))
theorem rgD_len {lo hi : Int} : (rgD lo hi).length = (hi - lo).toNat := by simp [rgD]
theorem rgD_at {lo hi : Int} {i : Nat} (h : i < (hi - lo).toNat) : (rgD lo hi)[i]? = some (.int (lo + (i : Nat))) := by
  unfold rgD
  rw [List.getElem?_map, List.getElem?_range h] <;> rfl
theorem dw_range1 {j : Int} (h : EvAs tas σ H [.int j]) (hj : -1000000 ≤ j ∧ j ≤ 1000000) : DW (iRng1 tas) σ H (rgD 0 j) := fun H1 e1 R k => h H1 e1 _ fun vs H2 e2 hv => by
  obtain ⟨v, rfl, hw⟩ := hv.one
  cases hw.int_inv
  refine ⟨j, rfl, by omega, by omega, k _ H2 e2 ?_⟩
  rw [rgD_len, show (j - 0).toNat = j.toNat by simp]
  exact walk_range.mono (fun _ _ => trivial) fun i H' x H'' hi _ ⟨y1, y2⟩ => ⟨y1 ▸ Ex.refl _, _, rgD_at (by omega), by rw [y2]; exact .int _⟩
theorem dw_range2 {i j : Int} (h : EvAs tas σ H [.int i, .int j]) (hi : -1000000 ≤ i ∧ i ≤ 1000000) (hj : -1000000 ≤ j ∧ j ≤ 1000000) : DW (iRng2 tas) σ H (rgD i j) := fun H1 e1 R k => h H1 e1 _ fun vs H2 e2 hv => by
  obtain ⟨v, v2, rfl, hw, hw2⟩ := hv.two
  cases hw.int_inv
  cases hw2.int_inv
  refine ⟨i, j, rfl, ⟨by omega, by omega, by omega, by omega⟩, k _ H2 e2 ?_⟩
  rw [rgD_len]
  exact walk_range.mono (fun _ _ => trivial) fun i H' x H'' hi _ ⟨y1, y2⟩ => ⟨y1 ▸ Ex.refl _, _, rgD_at hi, by rw [y2]; exact .int _⟩
def enD (k : Nat) : List PyData → List PyData
  | [] => []
  | d :: ds => .tuple [.int (k : Nat), d] :: enD (k + 1) ds
theorem enD_len : ∀ (ds : List PyData) (k : Nat), (enD k ds).length = ds.length
  | [], _ => rfl
  | d :: ds, k => congrArg Nat.succ (enD_len ds (k + 1))
theorem enD_at : ∀ {ds : List PyData} {k i : Nat} {d : PyData}, ds[i]? = some d → (enD k ds)[i]? = some (.tuple [.int ((k + i : Nat) : Int), d])
  | [], _, _, _, h => by cases h
  | d :: ds, k, 0, d', h => by
    cases h
    rfl
  | d :: ds, k, i + 1, d', h => by
    have q := enD_at (ds := ds) (k := k + 1) (i := i) (show ds[i]? = some d' from h)
    have e : k + 1 + i = k + (i + 1) := by omega
    rw [e] at q
    exact q
theorem dw_enum (h : EvAs tas σ H [.list ds]) : DW (iEnum K tas) σ H (enD 0 ds) := fun H1 e1 R k => h H1 e1 _ fun vs H2 e2 hv => by
  obtain ⟨v, rfl, hw⟩ := hv.one
  obtain ⟨a, xs, rfl, ha, hx⟩ := hw.lst_inv
  refine ⟨a, xs, rfl, sq_of ha, k _ H2 e2 ?_⟩
  rw [enD_len, ← hx.length]
  refine walk_enum.mono (fun H' g => sq_of (g _ _ ha)) fun i H' x H'' hi g ⟨T, x1, x2, z1, z2, z3, z4, z5⟩ => ?_
  obtain ⟨d, h1, h2⟩ := (hx.ex g).get' z5
  cases z4
  refine ⟨by rw [z3]; exact Ex.new z2, _, enD_at h1, ?_⟩
  rw [z1, z3, Nat.zero_add]
  exact .tup upd_same (.cons (.int _) (.cons (h2.ex (Ex.new z2)) .nil))

/-! ### comprehensions -/
/-- what one turn of a comprehension does at an item: to which slots, whether it gives, and what -/
structure Turn1 (nw : Bool) (g : TG) (tt : TT) (te : TE) (vs : List Nat) (σ : L2.St) (H : Hp) (x : V) (b : Bool) (e : PyData) : Prop where
  ex : ∃ σ2, wipe σ2 vs = wipe σ vs ∧ (∀ Q : L2.St → Hp → Prop, Q σ2 H → g x (wipe σ vs) H Q) ∧ EvT tt σ2 H b ∧ (b = true → EvR nw te σ2 H e)
/-- flat items: a list of data -/
theorem d_lc {wi : TI} {g : TG} {tt : TT} {vs : List Nat} (p : PyData → Bool) (f : PyData → PyData) (h : DW wi σ H ds) (hz : ds.length ≤ 1000000) (hf : ∀ d ∈ ds, p d = true → flatD (f d) = true)
    (ht : ∀ d ∈ ds, ∀ x H1, Ex H H1 → Dt H1 x d → Turn1 false g tt te vs σ H1 x (p d) (f d)) : EvR true (tLc wi g tt te vs) σ H (.list ((ds.filter p).map f)) := fun H0 e0 Q q => h H0 e0 _ fun J H1 e1 w Dl hD => by
  refine lc_it w (fun i H' => Ex H1 H' ∧ ∃ acc, H' Dl = some (.lst acc) ∧ acc.length ≤ i ∧ DtAll H' acc (((ds.take i).filter p).map f)) ⟨Ex.new hD, [], upd_same, Nat.le_refl _, .nil⟩ (fun i H' _ p => p.1) ?_ ?_
  · rintro i x H2 H3 hi ⟨e2, acc, ha, hl, hacc⟩ ⟨e3, d, hd, hx⟩
    have hmem : d ∈ ds := List.mem_of_getElem? hd
    obtain ⟨σ2, w2, hg, hT, hE⟩ := (ht d hmem x H3 (((e0.trans e1).trans e2).trans e3) hx).ex
    refine hg _ ⟨w2, hT H3 (Ex.refl _) _ fun H4 e4 => ?_⟩
    have tk : ds.take (i + 1) = ds.take i ++ [d] := by rw [List.take_add_one, hd]; rfl
    cases hp : p d with
    | false =>
      refine ⟨(e2.trans e3).trans e4, acc, e4 _ _ (e3 _ _ ha), by omega, ?_⟩
      rw [tk, List.filter_append, List.filter_cons_of_neg (by rw [hp]; decide), List.filter_nil, List.append_nil]
      exact hacc.ex (e3.trans e4)
    | true =>
      show te σ2 H4 _
      refine hE hp H4 e4 _ fun y H5 e5 hy _ => ⟨acc, e5 _ _ (e4 _ _ (e3 _ _ ha)), Nat.lt_of_le_of_lt (show acc.length ≤ 1000000 by omega) (by decide), ?_⟩
      have e15 : Ex H1 H5 := ((e2.trans e3).trans e4).trans e5
      refine ⟨Ex.mut e15 hD, _, upd_same, by rw [List.length_append]; exact Nat.succ_le_succ hl, ?_⟩
      rw [tk, List.filter_append, List.filter_cons_of_pos hp, List.filter_nil, List.map_append]
      refine (DtAll.append (hacc.ex ((e3.trans e4).trans e5)) (.cons hy .nil)).updF (e5 _ _ (e4 _ _ (e3 _ _ ha))) ?_
      rw [flatAll_append, flatAll_mem (ds := List.map f _), Bool.true_and]
      · exact flatAll_mem fun z hz => by
          cases List.mem_singleton.mp hz
          exact hf d hmem hp
      · intro z hz
        obtain ⟨c, hc, rfl⟩ := List.mem_map.mp hz
        obtain ⟨c1, c2⟩ := List.mem_filter.mp hc
        exact hf c (List.mem_of_mem_take c1) c2
  · rintro H' ⟨e2, acc, ha, hl, hacc⟩
    rw [List.take_length] at hacc
    exact q _ H' (e1.trans e2) (.lst ha hacc) fun _ => ⟨Dl, rfl, fresh_back e1 hD⟩
/-- no test -/
theorem t_yes : EvT tYes σ H true := fun H1 _ _ q => q H1 (Ex.refl H1)
theorem filter_true {α : Type} : ∀ (l : List α), l.filter (fun _ => true) = l
  | [] => rfl
  | a :: l => by rw [List.filter_cons_of_pos rfl, filter_true l]
theorem d_lcAll {wi : TI} {g : TG} {tt : TT} {vs : List Nat} (f : PyData → PyData) (h : DW wi σ H ds) (hz : ds.length ≤ 1000000) (hf : ∀ d ∈ ds, flatD (f d) = true)
    (ht : ∀ d ∈ ds, ∀ x H1, Ex H H1 → Dt H1 x d → Turn1 false g tt te vs σ H1 x true (f d)) : EvR true (tLc wi g tt te vs) σ H (.list (ds.map f)) := by
  have q := d_lc (te := te) (g := g) (tt := tt) (vs := vs) (fun _ => true) f h hz (fun d hd _ => hf d hd) ht
  rw [filter_true] at q
  exact q
/-- targets -/
theorem turn_name {nw : Bool} {tt : TT} {vs : List Nat} {j : Nat} {b : Bool} (hw : wipe ((wipe σ vs).set j (some x)) vs = wipe σ vs) (h1 : EvT tt ((wipe σ vs).set j (some x)) H b) (h2 : b = true → EvR nw te ((wipe σ vs).set j (some x)) H e) :
    Turn1 nw (gName j) tt te vs σ H x b e := ⟨_, hw, fun Q q => q, h1, h2⟩
theorem g_pair {i j : Nat} {d1 d2 : PyData} {Q : L2.St → Hp → Prop} (h : Dt H x (.tuple [d1, d2])) (k : ∀ v1 v2, Dt H v1 d1 → Dt H v2 d2 → Q ((σ.set i (some v1)).set j (some v2)) H) : gTup K 2 (gCons (gName i) (gCons (gName j) gNil)) x σ H Q := by
  obtain ⟨a, xs, rfl, ha, hx⟩ := h.tup_inv
  obtain ⟨v1, v2, rfl, h1, h2⟩ := hx.two
  exact ⟨a, _, rfl, st_of ha, rfl, v1, _, rfl, v2, _, rfl, rfl, k v1 v2 h1 h2⟩
theorem turn_pair {nw : Bool} {tt : TT} {vs : List Nat} {i j : Nat} {b : Bool} {d1 d2 : PyData} (h : Dt H x (.tuple [d1, d2])) (hw : ∀ v1 v2, wipe (((wipe σ vs).set i (some v1)).set j (some v2)) vs = wipe σ vs)
    (h1 : ∀ v1 v2, Dt H v1 d1 → Dt H v2 d2 → EvT tt (((wipe σ vs).set i (some v1)).set j (some v2)) H b) (h2 : ∀ v1 v2, Dt H v1 d1 → Dt H v2 d2 → b = true → EvR nw te (((wipe σ vs).set i (some v1)).set j (some v2)) H e) :
    Turn1 nw (gTup K 2 (gCons (gName i) (gCons (gName j) gNil))) tt te vs σ H x b e := by
  obtain ⟨a, xs, rfl, ha, hx⟩ := h.tup_inv
  obtain ⟨v1, v2, rfl, g1, g2⟩ := hx.two
  exact ⟨_, hw v1 v2, fun Q q => ⟨a, _, rfl, st_of ha, rfl, v1, _, rfl, v2, _, rfl, rfl, q⟩, h1 v1 v2 g1 g2, h2 v1 v2 g1 g2⟩

/-! ### loops -/
variable {D : Ends} {tu tw tz : TS} {g : TG}
/-- A: the body leaves all that stood -/
theorem s_forA {wi : TI} (h : DW wi σ H ds) (Pv : Nat → L2.St → Hp → Prop) (h0 : ∀ H1, Ex H H1 → Pv 0 σ H1)
    (hs : ∀ i d x σ' H', ds[i]? = some d → Ex H H' → Dt H' x d → Pv i σ' H' → ∀ (N : L2.St → Hp → Prop), (∀ σ3 H3, Ex H' H3 → Pv (i + 1) σ3 H3 → N σ3 H3) → g x σ' H' fun σ2 H2 => tu { D with nx := N, ct := N, bk := D.nx } σ2 H2)
    (hm : ∀ i σ' H' H'', Ex H' H'' → Pv i σ' H' → Pv i σ' H'')
    (hd : ∀ σ' H', Ex H H' → Pv ds.length σ' H' → D.nx σ' H') : tFor wi g tu D σ H := h H (Ex.refl H) _ fun J H1 e1 w =>
  for_it w (fun i σ' H' => Ex H1 H' ∧ Pv i σ' H') ⟨Ex.refl _, h0 H1 e1⟩ (fun _ _ _ _ p => p.1) (fun i x σ' H' H'' hi p ⟨y1, d, y2, y3⟩ =>
    hs i d x σ' H'' y2 ((e1.trans p.1).trans y1) y3 (hm i σ' H' H'' y1 p.2) _ fun σ3 H3 e3 p3 => ⟨(p.1.trans y1).trans e3, p3⟩) fun σ' H' p => hd σ' H' (e1.trans p.1) p.2
theorem q_forA {wi : TI} (h : DW wi σ H ds) (Pv : Nat → L2.St → Hp → Prop) (h0 : ∀ H1, Ex H H1 → Pv 0 σ H1)
    (hs : ∀ i d x σ' H', ds[i]? = some d → Ex H H' → Dt H' x d → Pv i σ' H' → ∀ (N : L2.St → Hp → Prop), (∀ σ3 H3, Ex H' H3 → Pv (i + 1) σ3 H3 → N σ3 H3) → g x σ' H' fun σ2 H2 => tu { D with nx := N, ct := N, bk := tz D } σ2 H2)
    (hm : ∀ i σ' H' H'', Ex H' H'' → Pv i σ' H' → Pv i σ' H'')
    (hd : ∀ σ' H', Ex H H' → Pv ds.length σ' H' → tz D σ' H') : tSeq (tFor wi g tu) tz D σ H := s_forA (D := { D with nx := tz D }) h Pv h0 hs hm hd
/-- B: what is walked is known at an older heap Hb, which the body leaves as it was -/
def DWB (wi : TI) (σ : L2.St) (Hb H : Hp) (ds : List PyData) : Prop := Ex Hb H ∧ ∀ R : It → Hp → Prop,
  (∀ J, Walk J ds.length (fun H' => Ex Hb H') (fun i H3 x H4 => Ex H3 H4 ∧ ∃ d, ds[i]? = some d ∧ Dt H4 x d) → R J H) → wi σ H R
theorem s_forB {wi : TI} {Hb : Hp} (h : DWB wi σ Hb H ds) (Pv : Nat → L2.St → Hp → Prop) (h0 : Pv 0 σ H)
    (hs : ∀ i d x σ' H' H'', ds[i]? = some d → Ex Hb H' → Pv i σ' H' → Ex H' H'' → Dt H'' x d → ∀ (N : L2.St → Hp → Prop), (∀ σ3 H3, Ex Hb H3 → Pv (i + 1) σ3 H3 → N σ3 H3) → g x σ' H'' fun σ2 H2 => tu { D with nx := N, ct := N, bk := D.nx } σ2 H2)
    (hd : ∀ σ' H', Ex Hb H' → Pv ds.length σ' H' → D.nx σ' H') : tFor wi g tu D σ H := h.2 _ fun J w =>
  for_it w (fun i σ' H' => Ex Hb H' ∧ Pv i σ' H') ⟨h.1, h0⟩ (fun _ _ _ _ p => p.1) (fun i x σ' H' H'' hi p ⟨y1, d, y2, y3⟩ =>
    hs i d x σ' H' H'' y2 p.1 p.2 y1 y3 _ fun σ3 H3 e3 p3 => ⟨e3, p3⟩) fun σ' H' p => hd σ' H' p.1 p.2
theorem q_forB {wi : TI} {Hb : Hp} (h : DWB wi σ Hb H ds) (Pv : Nat → L2.St → Hp → Prop) (h0 : Pv 0 σ H)
    (hs : ∀ i d x σ' H' H'', ds[i]? = some d → Ex Hb H' → Pv i σ' H' → Ex H' H'' → Dt H'' x d → ∀ (N : L2.St → Hp → Prop), (∀ σ3 H3, Ex Hb H3 → Pv (i + 1) σ3 H3 → N σ3 H3) → g x σ' H'' fun σ2 H2 => tu { D with nx := N, ct := N, bk := tz D } σ2 H2)
    (hd : ∀ σ' H', Ex Hb H' → Pv ds.length σ' H' → tz D σ' H') : tSeq (tFor wi g tu) tz D σ H := s_forB (D := { D with nx := tz D }) h Pv h0 hs hd
theorem dwb_list {Hb : Hp} {i : Nat} (e : Ex Hb H) (hv : σ[i]? = some (some v)) (hd : Dt Hb v (.list ds)) : DWB (iList K (tVar i)) σ Hb H ds := ⟨e, fun R k => ⟨v, hv, by
  obtain ⟨a, xs, rfl, ha, hx⟩ := hd.lst_inv
  refine ⟨a, rfl, ⟨xs, sq_of (e _ _ ha)⟩, k _ ?_⟩
  rw [← hx.length]
  exact walk_list.mono (fun H' g => sq_of (g _ _ ha)) fun i H' x H'' hi g ⟨y1, y2⟩ => by
    subst y1
    obtain ⟨d, h1, h2⟩ := (hx.ex g).get' y2
    exact ⟨Ex.refl _, d, h1, h2⟩⟩⟩
theorem dwb_enum {Hb : Hp} {i : Nat} (e : Ex Hb H) (hv : σ[i]? = some (some v)) (hd : Dt Hb v (.list ds)) : DWB (iEnum K (tCons (tVar i) tNil)) σ Hb H (enD 0 ds) := ⟨e, fun R k => ⟨v, hv, by
  obtain ⟨a, xs, rfl, ha, hx⟩ := hd.lst_inv
  refine ⟨a, xs, rfl, sq_of (e _ _ ha), k _ ?_⟩
  rw [enD_len, ← hx.length]
  refine walk_enum.mono (fun H' g => sq_of (g _ _ ha)) fun i H' x H'' hi g ⟨T, x1, x2, z1, z2, z3, z4, z5⟩ => ?_
  obtain ⟨d, h1, h2⟩ := (hx.ex g).get' z5
  cases z4
  refine ⟨by rw [z3]; exact Ex.new z2, _, enD_at h1, ?_⟩
  rw [z1, z3, Nat.zero_add]
  exact .tup upd_same (.cons (.int _) (.cons (h2.ex (Ex.new z2)) .nil))⟩⟩
/-- a range is always walked so -/
theorem dwb_range1 {j : Int} (h : ∀ Q : List V → Hp → Prop, Q [.int j] H → tas σ H Q) (hj : -1000000 ≤ j ∧ j ≤ 1000000) {Hb : Hp} (e : Ex Hb H) : DWB (iRng1 tas) σ Hb H (rgD 0 j) := ⟨e, fun R k => h _ ⟨j, rfl, by omega, by omega, k _ (by
  rw [rgD_len, show (j - 0).toNat = j.toNat by simp]
  exact walk_range.mono (fun _ _ => trivial) fun i H' x H'' hi _ ⟨y1, y2⟩ => ⟨y1 ▸ Ex.refl _, _, rgD_at (by omega), by rw [y2]; exact .int _⟩)⟩⟩
theorem av_1 {i : Nat} (h : σ[i]? = some (some v)) : ∀ Q : List V → Hp → Prop, Q [v] H → tCons (tVar i) tNil σ H Q := fun Q q => ⟨v, h, q⟩
end
end SC

/-! SCS: set(l) of a list, whatever its items, by what its loop does; of ints. -/
namespace SC
open PySem PySem.Spec PyProof.Rows L2 Evl

/-- the object of a set that was just made -/
abbrev newSetO (w : World) : Obj := { cls := .type "set", dict := none, data := .set #[] 0 (.fresh 0 0 (!w.params.followText "set-order")) }
/-- the object of a list's iterator that was just made -/
abbrev newItO (l : Addr) : Obj := { cls := .type "list_iterator", data := .fields #[.ref l, .int 0 0] }
section
variable {P : Program} {w : World} {A : Around} {E : Value → Shared → Prop} {s : Shared}
set_option maxHeartbeats 16000000 in
/-- set(l): what the loop over l's items brings (Po), that is brought -/
theorem set_of_list {l : Addr} {items : Array Value} {Q : Value → Shared → Prop} (Po : Heap → Prop) (hh : A.handled = none) (hl : s.heap.IsList l items)
    (loop : ∀ (A' : Around) (I : Addr) (s1 : Shared) (R : Result → Shared → Prop), A'.handled = none → A'.units ≤ A.units + 4 → I = s.heap.objs.size + 1 → l < s.heap.objs.size →
      s1.heap.get? s.heap.objs.size = some (newSetO w) → s1.heap.IsListIter I l 0 → s1.heap.IsList l items → s1.gens = s.gens → s1.drawn = s.drawn → s1.os = s.os → (∀ b o, s.heap.get? b = some o → s1.heap.get? b = some o) →
      (∀ s', Po s'.heap → (∀ b o, b < s.heap.objs.size → s.heap.get? b = some o → s'.heap.get? b = some o) → s'.gens = s.gens → s'.drawn = s.drawn → s'.os = s.os → R (.ok (.ret .none)) s') →
      codeAny (model P w) A' (.builtin "set.update.loop" ⟨[.ref s.heap.objs.size, .ref I], []⟩) R s1)
    (h : ∀ (h' : Heap) (tk : Nat), Po h' → (∀ b o, s.heap.get? b = some o → h'.get? b = some o) → Q (.ref s.heap.objs.size) { s with heap := h', toks := tk }) :
    wpAny (model P w) A (call (.type "set") [.ref l]) Q E s := by
  obtain ⟨c, tl, hmro⟩ := F.called_set.mro
  have k1 := F.called_set.made
  have k2 := F.called_set.sub
  refine wpAny_call (codeAny_of_tree ?_)
  show wpAny _ _ (callAny (.type "set") _) _ _ _
  refine wpAny_pure ⟨Code.quiet_builtin _ (by decide +kernel), codeAny_builtin F.entry_type_call ?_⟩
  rw [Around.under_plain (weight_type_call_type "set" [.ref l] []) rfl]
  have k3 := F.called_set.notType
  have k4 := F.called_set.canCreate
  have k5 := F.typeCall_set_1 (.ref l)
  repeat (any_goals (first | assumption | wp_step))
  refine codeAny_mono (code_set_led1 (.ref l) (E := E) (Q₁ := fun obj s₁ => obj = .ref s.heap.objs.size ∧ s₁ = { s with heap := s.heap.push (newSetO w) }) ⟨rfl, rfl⟩) fun r s₁ hr => ?_
  cases r with
  | error e => exact hr
  | ok fl =>
    cases fl with
    | ret obj =>
      obtain ⟨rfl, rfl⟩ := hr
      have hS : (s.heap.push (newSetO w)).get? s.heap.objs.size = some (newSetO w) := Heap.get?_push_size _ rfl
      have hT : Shared.TypeIs { s with heap := s.heap.push (newSetO w) } (.ref s.heap.objs.size) "set" := ⟨_, hS, rfl⟩
      have k6 := F.called_set.init.lookup
      have k7 := F.called_set.init.bind (.ref s.heap.objs.size)
      repeat (any_goals (first | assumption | wp_step))
      refine codeAny_mono (codeAny_call_builtin (R := wants (fun r s₂ => r = .none ∧ ∃ h' tk, s₂ = { s with heap := h', toks := tk } ∧ Po h' ∧ (∀ b o, s.heap.get? b = some o → h'.get? b = some o)) E) F.called_set.init.plain F.entry_set_init (check_set_init_1 hT ?_)) fun r₂ s₂ hr₂ => ?_
      · obtain ⟨ol, hol, hcl, nl, hdl⟩ := hl
        obtain ⟨ocls, odict, odata, oslots⟩ := ol
        simp only at hcl hdl
        subst hcl hdl
        have hol1 : (s.heap.push (newSetO w)).get? l = some { cls := .type "list", dict := odict, data := .seq items nl, slots := oslots } := Heap.get?_push_of_some _ hol
        have z1 := F.sub_list_set
        have z2 := F.sub_list_frozenset
        have z3 : (Value.type "list" == Value.type "dict") = false := by decide
        have hl1 : (s.heap.push (newSetO w)).IsList l items := ⟨_, hol1, rfl, nl, rfl⟩
        unfold Builtin.«set.__init__» noKeywords Builtin.Frozenset.updateFrom
        generalize hPI : pyIter = PI
        wp_walk
        subst hPI
        refine wpAny_pyIter_list hl1 ?_
        refine wpAny_bind (wpAny_runValue ?_)
        have ll : l < s.heap.objs.size := Heap.lt_size hol
        have zz : (s.heap.push (newSetO w)).objs.size = s.heap.objs.size + 1 := Heap.size_push ..
        refine loop _ _ _ _ (by simp [hh]) ?hu zz ll ?_ ⟨_, Heap.get?_push_size _ rfl, rfl, rfl⟩ (hl1.push _) rfl rfl rfl (fun b o e => Heap.get?_push_of_some _ (Heap.get?_push_of_some _ e)) fun s' po kp g1 g2 g3 => ?_
        case hu => show A.units + 1 + 1 ≤ A.units + 4; omega
        · exact Heap.get?_push_of_some _ hS
        · obtain ⟨h', g', d', tk', os'⟩ := s'
          subst g1 g2 g3
          show wpAny _ _ _ _ _ _
          refine wpAny_pure ?_
          show wpAny _ _ (ret Value.none) _ _ _
          exact wpAny_pure ⟨rfl, h', tk', rfl, po, fun b o e => kp b o (Heap.lt_size e) e⟩
      · cases r₂ with
        | error e => exact hr₂
        | ok fl₂ =>
          cases fl₂ with
          | ret r =>
            obtain ⟨rfl, h', tk, rfl, po, kp⟩ := hr₂
            repeat (any_goals (first | assumption | wp_step))
            exact h _ _ po kp
          | _ => exact hr₂.elim
    | _ => exact hr.elim
/-- set(l) of a list of ints -/
theorem set_of_ints {l : Addr} {items : Array Value} (ns : List Int) {Q : Value → Shared → Prop} (hh : A.handled = none) (hl : s.heap.IsList l items) (hit : IntsAre items.toList ns) (hb : ns.length + 1 < scanBound)
    (h : ∀ (h' : Heap) (tk c : Nat), SetR w h' s.heap.objs.size (fun j => decide (j ∈ ns)) c → c ≤ ns.length → (∀ b o, s.heap.get? b = some o → h'.get? b = some o) → Q (.ref s.heap.objs.size) { s with heap := h', toks := tk }) :
    wpAny (model P w) A (call (.type "set") [.ref l]) Q E s := by
  have hsz : items.size = ns.length := by
    have q := IntsAre.length hit
    rw [Array.length_toList] at q
    exact q
  refine set_of_list (fun h' => ∃ c, SetR w h' s.heap.objs.size (fun j => decide (j ∈ ns)) c ∧ c ≤ ns.length) hh hl ?_ fun h' tk ⟨c, r, hc⟩ kp => h h' tk c r hc kp
  intro A' I s1 R hh' _ eI ll hS hI hL g1 g2 g3 kp fin
  have hlI : l ≠ I := Nat.ne_of_lt (by rw [eI]; exact Nat.lt_succ_of_lt ll)
  have hSI : s.heap.objs.size ≠ I := Nat.ne_of_lt (by rw [eI]; exact Nat.lt_succ_self _)
  have hSl : s.heap.objs.size ≠ l := Nat.ne_of_gt ll
  have hval : ∀ (i : Nat) (v : Value), items[i]? = some v → ∃ k t, ns[i]? = some k ∧ v = .int k t := fun i v hv => by
    have hi : i < ns.length := by rw [← hsz]; exact (Array.getElem?_eq_some_iff.mp hv).1
    obtain ⟨t, e⟩ := PyProof.Rows.IntsAre.int_at hit i v (by rw [Array.getElem?_toList]; exact hv)
    refine ⟨ns[i], t, List.getElem?_eq_getElem hi, ?_⟩
    rw [e, List.getD_eq_getElem?_getD, List.getElem?_eq_getElem hi] <;> rfl
  have hm : s.heap.objs.size ∉ [I, l] := by
    simp only [List.mem_cons, List.not_mem_nil, or_false, not_or]
    exact ⟨hSI, hSl⟩
  refine set_update_ints ((Walks.list (A := A'.in1) (by simp [hh']) _ l hlI items).toS) s.heap.objs.size hm ns hsz hb hval (items.size - 0) 0 _ (by omega) (Nat.zero_le _) ⟨hI, hL⟩ ⟨0, Nat.le_refl 0, setR_new_at hS⟩ ?_
  intro s' c' mv hc' hS'
  refine fin s' ⟨c', hS', by rw [hsz] at hc'; exact hc'⟩ (fun b o lt e => ?_) (mv.gens.trans g1) (mv.drawn.trans g2) (mv.os.trans g3)
  have n1 : b ≠ s.heap.objs.size := Nat.ne_of_lt lt
  have n2 : b ≠ I := Nat.ne_of_lt (by rw [eI]; exact Nat.lt_succ_of_lt lt)
  exact mv.heap b o (by simp only [List.mem_cons, List.not_mem_nil, or_false, not_or]; exact ⟨n1, n2⟩) (kp b o e)
end
end SC

/-! SCC: sorted lists and sets of ints; built-ins by data. -/
namespace SC
open PySem PySem.Spec PyProof.Rows L2 Evl

/-! ### sorted lists of ints, with and without twins -/
def insL (x : Int) : List Int → List Int
  | [] => [x]
  | y :: r => if x ≤ y then x :: y :: r else y :: insL x r
def srt : List Int → List Int
  | [] => []
  | x :: r => insL x (srt r)
theorem insL_perm (x : Int) : ∀ l, (insL x l).Perm (x :: l)
  | [] => .refl _
  | y :: r => by
    unfold insL
    split
    · exact .refl _
    · exact ((insL_perm x r).cons y).trans (.swap x y r)
theorem srt_perm : ∀ l, (srt l).Perm l
  | [] => .refl _
  | x :: r => (insL_perm x (srt r)).trans ((srt_perm r).cons x)
theorem insL_mem {x z : Int} {l : List Int} : z ∈ insL x l ↔ z = x ∨ z ∈ l := by
  rw [(insL_perm x l).mem_iff, List.mem_cons]
theorem insL_le {x : Int} : ∀ {l : List Int}, l.Pairwise (· ≤ ·) → (insL x l).Pairwise (· ≤ ·)
  | [], _ => List.pairwise_singleton _ _
  | y :: r, h => by
    obtain ⟨h1, h2⟩ := List.pairwise_cons.mp h
    unfold insL
    split
    · rename_i q
      exact List.pairwise_cons.mpr ⟨fun z hz => by
        rcases List.mem_cons.mp hz with e | e
        · rw [e]; exact q
        · exact Int.le_trans q (h1 z e), h⟩
    · rename_i q
      refine List.pairwise_cons.mpr ⟨fun z hz => ?_, insL_le h2⟩
      rcases insL_mem.mp hz with e | e
      · rw [e]; omega
      · exact h1 z e
theorem srt_le : ∀ l, (srt l).Pairwise (· ≤ ·)
  | [] => List.Pairwise.nil
  | x :: r => insL_le (srt_le r)
theorem srt_of {l m : List Int} (p : m.Perm l) (h : m.Pairwise (· ≤ ·)) : m = srt l := PySem.W.ksm_same (p.trans (srt_perm l).symm) h (srt_le l)
theorem srt_len (l : List Int) : (srt l).length = l.length := (srt_perm l).length_eq
theorem srt_self {l : List Int} (h : l.Pairwise (· ≤ ·)) : srt l = l := (srt_of (.refl l) h).symm
def insS (x : Int) : List Int → List Int
  | [] => [x]
  | y :: r => if x < y then x :: y :: r else if x = y then y :: r else y :: insS x r
def sset : List Int → List Int
  | [] => []
  | x :: r => insS x (sset r)
theorem insS_mem {x z : Int} : ∀ {l : List Int}, z ∈ insS x l ↔ z = x ∨ z ∈ l
  | [] => by simp [insS]
  | y :: r => by
    unfold insS
    split
    · simp
    · split
      · rename_i h
        subst h
        simp
      · rw [List.mem_cons, insS_mem, List.mem_cons]
        constructor
        · rintro (e | e | e)
          · exact .inr (.inl e)
          · exact .inl e
          · exact .inr (.inr e)
        · rintro (e | e | e)
          · exact .inr (.inl e)
          · exact .inl e
          · exact .inr (.inr e)
theorem sset_mem {z : Int} : ∀ {l : List Int}, z ∈ sset l ↔ z ∈ l
  | [] => by simp [sset]
  | x :: r => by
    show z ∈ insS x (sset r) ↔ _
    rw [insS_mem, sset_mem, List.mem_cons]
theorem insS_lt {x : Int} : ∀ {l : List Int}, l.Pairwise (· < ·) → (insS x l).Pairwise (· < ·)
  | [], _ => List.pairwise_singleton _ _
  | y :: r, h => by
    obtain ⟨h1, h2⟩ := List.pairwise_cons.mp h
    unfold insS
    split
    · rename_i q
      exact List.pairwise_cons.mpr ⟨fun z hz => by
        rcases List.mem_cons.mp hz with e | e
        · rw [e]; exact q
        · exact Int.lt_trans q (h1 z e), h⟩
    · split
      · exact h
      · rename_i q1 q2
        refine List.pairwise_cons.mpr ⟨fun z hz => ?_, insS_lt h2⟩
        rcases insS_mem.mp hz with e | e
        · rw [e]; omega
        · exact h1 z e
theorem sset_lt : ∀ l, (sset l).Pairwise (· < ·)
  | [] => List.Pairwise.nil
  | x :: r => insS_lt (sset_lt r)
theorem lt_uniq : ∀ {l m : List Int}, l.Pairwise (· < ·) → m.Pairwise (· < ·) → (∀ z, z ∈ l ↔ z ∈ m) → l = m
  | [], [], _, _, _ => rfl
  | [], y :: r, _, _, h => by
    have q := (h y).mpr List.mem_cons_self
    cases q
  | x :: l, [], _, _, h => by
    have q := (h x).mp List.mem_cons_self
    cases q
  | x :: l, y :: m, h1, h2, h => by
    obtain ⟨a1, a2⟩ := List.pairwise_cons.mp h1
    obtain ⟨b1, b2⟩ := List.pairwise_cons.mp h2
    have e : x = y := by
      rcases List.mem_cons.mp ((h x).mp List.mem_cons_self) with e | e
      · exact e
      · rcases List.mem_cons.mp ((h y).mpr List.mem_cons_self) with e' | e'
        · exact e'.symm
        · have z1 := a1 y e'
          have z2 := b1 x e
          omega
    subst e
    refine congrArg (x :: ·) (lt_uniq a2 b2 fun z => ⟨fun hz => ?_, fun hz => ?_⟩)
    · rcases List.mem_cons.mp ((h z).mp (List.mem_cons_of_mem _ hz)) with e | e
      · exact absurd (a1 z hz) (by omega)
      · exact e
    · rcases List.mem_cons.mp ((h z).mpr (List.mem_cons_of_mem _ hz)) with e | e
      · exact absurd (b1 z hz) (by omega)
      · exact e
theorem sset_of {l m : List Int} (h : m.Pairwise (· < ·)) (k : ∀ z, z ∈ m ↔ z ∈ l) : m = sset l := lt_uniq h (sset_lt l) fun z => (k z).trans sset_mem.symm
theorem sset_self {l : List Int} (h : l.Pairwise (· < ·)) : sset l = l := (sset_of h fun _ => Iff.rfl).symm
theorem lt_nodup {l : List Int} (h : l.Pairwise (· < ·)) : l.Nodup := h.imp fun q => by omega
theorem nodup_len {l m : List Int} (h : l.Nodup) (k : ∀ z ∈ l, z ∈ m) : l.length ≤ m.length := (List.Nodup.length_le_of_subset h k)
theorem sset_len_le (l : List Int) : (sset l).length ≤ l.length := nodup_len (lt_nodup (sset_lt l)) fun _ h => sset_mem.mp h

/-! ### set(xs) of ints, and what is done with it -/
def rSetI (K : PySem.W.Frag) (w : World) : List V → Hp → VK → Prop := fun xs H Q => ∃ (l : Addr) (ns : List Int), xs = [V.ref l] ∧ SqL K H l (ns.map V.int) ∧ ns.length ≤ 4000 ∧
  ∀ (p : Addr), H p = none → Q (.ref p) (upd H p (SetO w p (fun j => decide (j ∈ ns)) (sset ns).length))
theorem setR_card {w : World} {h : Heap} {a : Addr} {ns : List Int} {c : Nat} (R : SetR w h a (fun j => decide (j ∈ ns)) c) : c = (sset ns).length := by
  obtain ⟨o, es, ep, t, _, _, _, _, nd, hm, _, _, hn, _⟩ := R
  rw [← hn, ← Array.length_toList, ← List.length_map (f := keyOf)]
  have k : ∀ z, z ∈ es.toList.map keyOf ↔ z ∈ sset ns := fun z => by
    rw [sset_mem, ← hm z]
    simp
  exact Nat.le_antisymm (nodup_len nd fun z hz => (k z).mp hz) (nodup_len (lt_nodup (sset_lt ns)) fun z hz => (k z).mpr hz)
section
variable {X : Cx}
theorem cr_setI (hc : X.calm = true) : CallR X (.type "set") (rSetI X.K X.w) := by
  intro pins s σ H xs us Q I r h
  obtain ⟨l, ns, rfl, hq, hz, q⟩ := h
  rw [Vals.ref1 r]
  obtain ⟨its, rv, pl, hl⟩ := I.list hq
  refine set_of_ints (items := its.toArray) ns (I.ok.hd hc) pl.isList (by simpa using rv.ints) (by unfold scanBound; omega) fun h' tk c R hcn kp => ?_
  have ec := setR_card R
  subst ec
  exact ⟨.ref _, upd H s.heap.objs.size (SetO X.w s.heap.objs.size (fun j => decide (j ∈ ns)) (sset ns).length), I.laid (t' := tk) (fun b u e => kp b u e) (Nat.le_refl _) (setO_new R), rfl, q _ (I.hok.fresh (Nat.le_refl _))⟩
/-- len of a set of ints -/
def rLenSet (w : World) : List V → Hp → VK → Prop := fun xs H Q => ∃ (a : Addr) (S : Int → Bool) (n : Nat), xs = [V.ref a] ∧ H a = some (SetO w a S n) ∧ Q (.int n) H
theorem call_lenSet : CallR X (.builtin "len") (rLenSet X.w) := by
  intro pins s σ H xs us Q I r h
  obtain ⟨a, S, n, rfl, ha, q⟩ := h
  rw [Vals.ref1 r]
  obtain ⟨o, es, ep, t, ho, hx, hd, _, _, _, hb, hf, hn, _⟩ := setO_get I ha
  unfold scanBound at hb
  exact call_len_set ho hx hd hf (by omega) ⟨.int n, H, I.tok _, ⟨_, by rw [hn]⟩, q⟩
end
/-! ### the universal calls -/
def rULen (K : PySem.W.Frag) (w : World) : List V → Hp → VK → Prop := fun xs H Q => (∃ p ys, xs = [.ref p] ∧ (SqL K H p ys ∨ SqT K H p ys) ∧ Q (.int ys.length) H) ∨
  ((∃ a kvs, xs = [V.ref a] ∧ H a = some (.dK kvs) ∧ Q (.int kvs.length) H) ∨ (rLenT xs H Q ∨ rLenSet w xs H Q))
def rUSorted (K : PySem.W.Frag) (w : World) : List V → Hp → VK → Prop := fun xs H Q => rSortedI K xs H Q ∨
  ((∃ (a : Addr) (kvs : List (Key × V)) (ks : List Int), xs = [.ref a] ∧ Rd H a (.dK kvs) ∧ kvs.map (·.1) = ks.map Sum.inl ∧ ks.length < 64 ∧
    ∀ (ys : List Int) (p : Addr), ys.Perm ks → ys.Pairwise (· ≤ ·) → H p = none → Q (.ref p) (upd H p (.lst (ys.map V.int)))) ∨ (rSortedSet w xs H Q ∨ rSortedPO K xs H Q))
section
variable {X : Cx}
theorem call_uLen : CallR X (.builtin "len") (rULen X.K X.w) := call_len_seq.or (call_lenD.or (call_len_dT.or call_lenSet))
theorem cr_uSorted (hc : X.calm = true) : CallR X (.builtin "sorted") (rUSorted X.K X.w) := cr_sortedI.or ((call_sortedDI hc).or ((cr_sortedSet hc).or cr_sortedPO))
end
section
variable {n : Bool} {K : PySem.W.Frag} {w : World} {σ : L2.St} {H H' : Hp} {ta tb te tl : TE} {t u : TT} {x y v : V} {d e dx dy : PyData} {ds es : List PyData} {tas : TA} {ns : List Int}
theorem rc_lenL : RCD false (rULen K w) [.list ds] H (.int (ds.length : Nat)) := fun vs H1 _ hv Q q => by
  obtain ⟨v, rfl, h⟩ := hv.one
  obtain ⟨a, xs, rfl, ha, hx⟩ := h.lst_inv
  refine .inl ⟨a, xs, rfl, .inl (sq_of ha), ?_⟩
  rw [hx.length]
  exact q _ H1 (Ex.refl H1) (.int _) Fr.no
theorem rc_lenT : RCD false (rULen K w) [.tuple ds] H (.int (ds.length : Nat)) := fun vs H1 _ hv Q q => by
  obtain ⟨v, rfl, h⟩ := hv.one
  obtain ⟨a, xs, rfl, ha, hx⟩ := h.tup_inv
  refine .inl ⟨a, xs, rfl, .inr (st_of ha), ?_⟩
  rw [hx.length]
  exact q _ H1 (Ex.refl H1) (.int _) Fr.no
theorem rc_sortedI : RCD true (rUSorted K w) [.list (iL ns)] H (.list (iL (srt ns))) := fun vs H1 _ hv Q q => by
  obtain ⟨v, rfl, h⟩ := hv.one
  obtain ⟨a, xs, rfl, ha, hx⟩ := h.lst_inv
  cases hx.iL_inv
  refine .inl ⟨a, ns, rfl, sq_of ha, fun ns' p hp hs hn => ?_⟩
  rw [srt_of hp hs]
  exact q _ _ (Ex.new hn) (.lst upd_same (DtAll.iL_mk _)) fun _ => ⟨p, rfl, hn⟩
/-- sorted(set(xs)) -/
theorem d_sortedSet {te : TE} (h : EvD te σ H (.list (iL ns))) (hz : (sset ns).length < 64) (hz2 : ns.length ≤ 4000) : EvR true (tCB (rUSorted K w) (tCons (tCB (rSetI K w) (tCons te tNil)) tNil)) σ H (.list (iL (sset ns))) := fun H1 e1 Q q =>
  h H1 e1 _ fun v H2 e2 hv _ => by
    obtain ⟨a, xs, rfl, ha, hx⟩ := hv.lst_inv
    cases hx.iL_inv
    refine ⟨a, ns, rfl, sq_of ha, hz2, fun p hp => .inr (.inr (.inl ⟨p, _, _, rfl, upd_same, hz, fun ms p2 hs hm _ hn => ?_⟩))⟩
    have e : ms = sset ns := sset_of hs fun z => by rw [hm z]; simp
    rw [e]
    exact q _ _ ((e2.trans (Ex.new hp)).trans (Ex.new hn)) (.lst upd_same (DtAll.iL_mk _)) fun _ => ⟨p2, rfl, fresh_back (e2.trans (Ex.new hp)) hn⟩
/-- len(set(xs)) -/
theorem d_lenSet {te : TE} (h : EvD te σ H (.list (iL ns))) (hz2 : ns.length ≤ 4000) : EvD (tCB (rULen K w) (tCons (tCB (rSetI K w) (tCons te tNil)) tNil)) σ H (.int ((sset ns).length : Nat)) := fun H1 e1 Q q =>
  h H1 e1 _ fun v H2 e2 hv _ => by
    obtain ⟨a, xs, rfl, ha, hx⟩ := hv.lst_inv
    cases hx.iL_inv
    exact ⟨a, ns, rfl, sq_of ha, hz2, fun p hp => .inr (.inr (.inr ⟨p, _, _, rfl, upd_same, q _ _ (e2.trans (Ex.new hp)) (.int _) Fr.no⟩))⟩
/-- list(range(a, b)) -/
def EvRg (te : L2.St → Hp → (Int → Int → Hp → Prop) → Prop) (σ : L2.St) (H : Hp) (a b : Int) : Prop := ∀ H1, Ex H H1 → ∀ Q : Int → Int → Hp → Prop, (∀ H2, Ex H1 H2 → Q a b H2) → te σ H1 Q
theorem rg_1 {te : TE} {j : Int} (h : EvD te σ H (.int j)) : EvRg (tRg1 te) σ H 0 j := fun H1 e Q q => h H1 e _ fun v H2 e2 hv _ => ⟨j, hv.int_inv, q H2 e2⟩
theorem rg_2 {ta tb : TE} {i j : Int} (h : EvD ta σ H (.int i)) (h2 : EvD tb σ H (.int j)) : EvRg (tRg2 ta tb) σ H i j := fun H1 e Q q => h H1 e _ fun v H2 e2 hv _ => h2 H2 (e.trans e2) _ fun v2 H3 e3 hv2 _ => ⟨i, j, hv.int_inv, hv2.int_inv, q H3 (e2.trans e3)⟩
def rgI (lo hi : Int) : List Int := (List.range (hi - lo).toNat).map fun i => lo + (i : Nat)
theorem rgD_eq (lo hi : Int) : rgD lo hi = iL (rgI lo hi) := by
  unfold rgD iL rgI
  rw [List.map_map] <;> rfl
theorem d_listRg {te : L2.St → Hp → (Int → Int → Hp → Prop) → Prop} {a b : Int} (h : EvRg te σ H a b) (ha : -1000000 ≤ a ∧ a ≤ 1000000) (hb : -1000000 ≤ b ∧ b ≤ 1000000) : EvR true (tLstRg te) σ H (.list (iL (rgI a b))) := fun H1 e1 Q q =>
  h H1 e1 _ fun H2 e2 => ⟨⟨by omega, by omega, by omega, by omega, by omega⟩, fun p hp => q _ _ (e2.trans (Ex.new hp)) (.lst upd_same (by
    have e : rgV a b = (rgI a b).map V.int := by unfold rgV rgI; rw [List.map_map] <;> rfl
    rw [e]
    exact DtAll.iL_mk _)) fun _ => ⟨p, rfl, fresh_back e2 hp⟩⟩
def rListOf (K : PySem.W.Frag) : List V → Hp → VK → Prop := fun xs H Q => ∃ p ys, xs = [.ref p] ∧ (SqL K H p ys ∨ SqT K H p ys) ∧ ∀ l, H l = none → Q (.ref l) (upd H l (.lst ys))
theorem cr_listOf {X : Cx} : CallR X (.type "list") (rListOf X.K) := call_list_of
theorem rc_listL : RCD true (rListOf K) [.list ds] H (.list ds) := fun vs H1 _ hv Q q => by
  obtain ⟨v, rfl, h⟩ := hv.one
  obtain ⟨a, xs, rfl, ha, hx⟩ := h.lst_inv
  exact ⟨a, xs, rfl, .inl (sq_of ha), fun p hp => q _ _ (Ex.new hp) (.lst upd_same (hx.ex (Ex.new hp))) fun _ => ⟨p, rfl, hp⟩⟩
theorem rc_listT : RCD true (rListOf K) [.tuple ds] H (.list ds) := fun vs H1 _ hv Q q => by
  obtain ⟨v, rfl, h⟩ := hv.one
  obtain ⟨a, xs, rfl, ha, hx⟩ := h.tup_inv
  exact ⟨a, xs, rfl, .inr (st_of ha), fun p hp => q _ _ (Ex.new hp) (.lst upd_same (hx.ex (Ex.new hp))) fun _ => ⟨p, rfl, hp⟩⟩
theorem rc_sum : RCD false (rSum K) [.list (iL ns)] H (.int ns.sum) := fun vs H1 _ hv Q q => by
  obtain ⟨v, rfl, h⟩ := hv.one
  obtain ⟨a, xs, rfl, ha, hx⟩ := h.lst_inv
  cases hx.iL_inv
  exact ⟨a, ns, rfl, sq_of ha, q _ H1 (Ex.refl H1) (.int _) Fr.no⟩
theorem rc_max {m : Int} (hm : m ∈ ns) (hy : ∀ y ∈ ns, y ≤ m) : RCD false (rMax K) [.list (iL ns)] H (.int m) := fun vs H1 _ hv Q q => by
  obtain ⟨v, rfl, h⟩ := hv.one
  obtain ⟨a, xs, rfl, ha, hx⟩ := h.lst_inv
  cases hx.iL_inv
  refine ⟨a, ns, rfl, sq_of ha, List.length_pos_of_mem hm, fun k hk hk2 => ?_⟩
  have e : k = m := Int.le_antisymm (hy k hk) (hk2 m hm)
  rw [e]
  exact q _ H1 (Ex.refl H1) (.int _) Fr.no
theorem rc_min {m : Int} (hm : m ∈ ns) (hy : ∀ y ∈ ns, m ≤ y) : RCD false (rMin K) [.list (iL ns)] H (.int m) := fun vs H1 _ hv Q q => by
  obtain ⟨v, rfl, h⟩ := hv.one
  obtain ⟨a, xs, rfl, ha, hx⟩ := h.lst_inv
  cases hx.iL_inv
  refine ⟨a, ns, rfl, sq_of ha, List.length_pos_of_mem hm, fun k hk hk2 => ?_⟩
  have e : k = m := Int.le_antisymm (hk2 m hm) (hy k hk)
  rw [e]
  exact q _ H1 (Ex.refl H1) (.int _) Fr.no
theorem rc_all {bs : List Bool} : RCD false (rAll K) [.list (bL bs)] H (.bool (bs.all id)) := fun vs H1 _ hv Q q => by
  obtain ⟨v, rfl, h⟩ := hv.one
  obtain ⟨a, xs, rfl, ha, hx⟩ := h.lst_inv
  cases hx.bL_inv
  exact ⟨a, bs, rfl, sq_of ha, q _ H1 (Ex.refl H1) (.bl _) Fr.no⟩
theorem rc_any {bs : List Bool} : RCD false (rAny K) [.list (bL bs)] H (.bool (bs.any id)) := fun vs H1 _ hv Q q => by
  obtain ⟨v, rfl, h⟩ := hv.one
  obtain ⟨a, xs, rfl, ha, hx⟩ := h.lst_inv
  cases hx.bL_inv
  exact ⟨a, bs, rfl, sq_of ha, q _ H1 (Ex.refl H1) (.bl _) Fr.no⟩
def rMax2 : List V → Hp → VK → Prop := fun xs H Q => ∃ i j, xs = [.int i, .int j] ∧ Q (.int (if j > i then j else i)) H
def rMin2 : List V → Hp → VK → Prop := fun xs H Q => ∃ i j, xs = [.int i, .int j] ∧ Q (.int (if j < i then j else i)) H
def rAbs : List V → Hp → VK → Prop := fun xs H Q => ∃ i, xs = [.int i] ∧ Q (.int (if i < 0 then -i else i)) H
theorem cr_min2 {X : Cx} (hc : X.calm = true) : CallR X (.builtin "min") rMin2 := call_min2 hc
theorem cr_max2 {X : Cx} (hc : X.calm = true) : CallR X (.builtin "max") rMax2 := call_max2 hc
theorem cr_abs {X : Cx} : CallR X (.builtin "abs") rAbs := call_abs
theorem rc_min2 {i j : Int} : RCD false rMin2 [.int i, .int j] H (.int (min i j)) := fun vs H1 _ hv Q q => by
  obtain ⟨v, v2, rfl, h, h2⟩ := hv.two
  cases h.int_inv
  cases h2.int_inv
  refine ⟨i, j, rfl, ?_⟩
  have e : (if j < i then j else i) = min i j := by
    rw [Int.min_def]
    split <;> split <;> omega
  rw [e]
  exact q _ H1 (Ex.refl H1) (.int _) Fr.no
theorem rc_max2 {i j : Int} : RCD false rMax2 [.int i, .int j] H (.int (max i j)) := fun vs H1 _ hv Q q => by
  obtain ⟨v, v2, rfl, h, h2⟩ := hv.two
  cases h.int_inv
  cases h2.int_inv
  refine ⟨i, j, rfl, ?_⟩
  have e : (if j > i then j else i) = max i j := by
    rw [Int.max_def]
    split <;> split <;> omega
  rw [e]
  exact q _ H1 (Ex.refl H1) (.int _) Fr.no
theorem rc_abs {i : Int} : RCD false rAbs [.int i] H (.int (if i < 0 then -i else i)) := fun vs H1 _ hv Q q => by
  obtain ⟨v, rfl, h⟩ := hv.one
  cases h.int_inv
  exact ⟨i, rfl, q _ H1 (Ex.refl H1) (.int _) Fr.no⟩
/-! xs.append(e), on a list that only this def knows -/
variable {D : Ends} {tz : TS}
theorem q_appD {l : Addr} {xs : List V} {tl te : TE} (hl : H l = some (.lst xs)) (ht : ∀ Q : VK, Q (.ref l) H → tl σ H Q) (h : EvR n te σ H d) (hz : xs.length ≤ 1000000) (k : ∀ v H1, Ex H H1 → Dt H1 v d → Fr n H v → tz D σ (upd H1 l (.lst (xs ++ [v])))) :
    tSeq (tDrop (tBM K "list" rAppend tl (tCons te tNil))) tz D σ H := ht _ ⟨.inl ⟨rfl, xs, sq_of hl⟩, h H (Ex.refl H) _ fun v H1 e1 hv f => ⟨l, xs, v, rfl, rfl, e1 _ _ hl, Nat.lt_of_le_of_lt hz (by decide), k v H1 e1 hv f⟩⟩
theorem s_appD {l : Addr} {xs : List V} {tl te : TE} (hl : H l = some (.lst xs)) (ht : ∀ Q : VK, Q (.ref l) H → tl σ H Q) (h : EvR n te σ H d) (hz : xs.length ≤ 1000000) (k : ∀ v H1, Ex H H1 → Dt H1 v d → Fr n H v → D.nx σ (upd H1 l (.lst (xs ++ [v])))) :
    tDrop (tBM K "list" rAppend tl (tCons te tNil)) D σ H := ht _ ⟨.inl ⟨rfl, xs, sq_of hl⟩, h H (Ex.refl H) _ fun v H1 e1 hv f => ⟨l, xs, v, rfl, rfl, e1 _ _ hl, Nat.lt_of_le_of_lt hz (by decide), k v H1 e1 hv f⟩⟩
theorem s_extD {l : Addr} {xs : List V} {tl te : TE} (hl : H l = some (.lst xs)) (ht : ∀ Q : VK, Q (.ref l) H → tl σ H Q) (h : EvD te σ H (.list ds)) (hz : xs.length + ds.length ≤ 1000000) (k : ∀ vs H1, Ex H H1 → DtAll H1 vs ds → D.nx σ (upd H1 l (.lst (xs ++ vs)))) :
    tDrop (tBM K "list" rExtend tl (tCons te tNil)) D σ H := ht _ ⟨.inl ⟨rfl, xs, sq_of hl⟩, h H (Ex.refl H) _ fun v H1 e1 hv f => by
      obtain ⟨b, ys, rfl, hb, hy⟩ := hv.lst_inv
      exact ⟨l, b, xs, ys, rfl, rfl, e1 _ _ hl, hb, by rw [hy.length]; exact Nat.le_trans hz (by decide), k ys H1 e1 hy⟩⟩
theorem s_appX {l : Addr} {xs : List V} {tl te : TE} (hl : H l = some (.lst xs)) (ht : ∀ Q : VK, Q (.ref l) H → tl σ H Q) (h : ∀ Q : VK, Q v H → te σ H Q) (hz : xs.length ≤ 1000000) (k : D.nx σ (upd H l (.lst (xs ++ [v])))) :
    tDrop (tBM K "list" rAppend tl (tCons te tNil)) D σ H := ht _ ⟨.inl ⟨rfl, xs, sq_of hl⟩, h _ ⟨l, xs, v, rfl, rfl, hl, Nat.lt_of_le_of_lt hz (by decide), k⟩⟩
theorem vt_var {i : Nat} (h : σ[i]? = some (some v)) : ∀ Q : VK, Q v H → tVar i σ H Q := fun Q q => ⟨v, h, q⟩
end
end SC

/-! SCD: defs, methods and classes of the text, as callers use them. -/
namespace SC
open PySem PySem.Spec PyProof.Rows L2 Evl

/-! ### built-in names -/
theorem bo_len : bootBuiltins "len" = some (.builtin "len") := by decide +kernel
theorem bo_sorted : bootBuiltins "sorted" = some (.builtin "sorted") := by decide +kernel
theorem bo_sum : bootBuiltins "sum" = some (.builtin "sum") := by decide +kernel
theorem bo_max : bootBuiltins "max" = some (.builtin "max") := by decide +kernel
theorem bo_min : bootBuiltins "min" = some (.builtin "min") := by decide +kernel
theorem bo_all : bootBuiltins "all" = some (.builtin "all") := by decide +kernel
theorem bo_any : bootBuiltins "any" = some (.builtin "any") := by decide +kernel
theorem bo_abs : bootBuiltins "abs" = some (.builtin "abs") := by decide +kernel
theorem bo_isinstance : bootBuiltins "isinstance" = some (.builtin "isinstance") := by decide +kernel
theorem bo_divmod : bootBuiltins "divmod" = some (.builtin "divmod") := by decide +kernel
theorem bo_list : bootBuiltins "list" = some (.type "list") := by decide +kernel
theorem bo_set : bootBuiltins "set" = some (.type "set") := by decide +kernel
theorem bo_int : bootBuiltins "int" = some (.type "int") := by decide +kernel
theorem bo_bool : bootBuiltins "bool" = some (.type "bool") := by decide +kernel
theorem bo_tuple : bootBuiltins "tuple" = some (.type "tuple") := by decide +kernel
theorem bo_str : bootBuiltins "str" = some (.type "str") := by decide +kernel
/-- the built-in names that the text uses are not bound by it -/
structure Bl (mg : Str → Option Value) : Prop where
  len : mg "len" = none
  sorted : mg "sorted" = none
  sum : mg "sum" = none
  max : mg "max" = none
  min : mg "min" = none
  all : mg "all" = none
  any : mg "any" = none
  abs : mg "abs" = none
  isinstance : mg "isinstance" = none
  divmod : mg "divmod" = none
  list : mg "list" = none
  set : mg "set" = none
  int : mg "int" = none
  bool : mg "bool" = none
  tuple : mg "tuple" = none
  str : mg "str" = none
  range : mg "range" = none
  enumerate : mg "enumerate" = none

/-! ### defs -/
/-- the def st stands at the module's name x -/
def FDef (K : PySem.W.Frag) (mg : Str → Option Value) (x : Str) (st : Stmt) : Prop := ∃ f fd, FunD K x x (defArgs st) (defBody st) (defScope st) [] [] f fd ∧ mg x = some (.ref f)
/-- a def as its callers use it -/
structure Cal (P : Program) (w : World) (K : PySem.W.Frag) (mg : Str → Option Value) (base : Heap) (CX : CXT) (k : Nat) (x : Str) (ps : List Str) (sp : Sp) : Prop where
  ex : ∃ f fd, FnOk P w K mg base CX k f fd ps sp ∧ mg x = some (.ref f) ∧ PySem.W.keepIn K (.ref f) = true ∧ Binds K fd ps []
section
variable {P : Program} {w : World} {K : PySem.W.Frag} {mg : Str → Option Value} {base : Heap} {N ps : List Str} {k : Nat} {sp : Sp} {x : Str} {st : Stmt} {CX : CXT}
abbrev cx0 (CX : CXT) (P : Program) (w : World) (K : PySem.W.Frag) (mg : Str → Option Value) (base : Heap) (N : List Str) (qual : Str) (st : Stmt) (f : Addr) (cdv : Value) (A : Around) (outer : List Env) (s : Shared) (H : Hp) (E : XK) : Cx := cxOf CX P w K mg base N qual (defScope st) f cdv A outer s H E
theorem Cal.of (F : FDef K mg x st) (S : FnScope N ps (defScope st)) (len : ∀ vs H Q E, sp vs H Q E → vs.length = ps.length)
    (hb : ∀ (kV doc pm : Value) (an : Option Addr) (cdv ct : Value) (us : List Value), us.length = ps.length → bindArgs (PySem.W.fnOf x x (defArgs st) (defBody st) (defScope st) .none kV doc pm an cdv ct) ⟨us, []⟩ = pure (ps.zip us))
    (body : ∀ (f : Addr) (cdv : Value) (A : Around) (outer : List Env) (s : Shared) (H : Hp) (vs : List V) (Q : VK) (E : XK), Room k (A.deeper (envOfC x (defScope st) s.heap.objs.size f cdv)) → sp vs H Q E →
      ∃ t, PSs (cx0 CX0 P w K mg base N x st f cdv A outer s H E).nox (defBody st) t ∧ t { nx := fun _ H' => Q .non H', rt := Q } (start N vs) H) : Cal P w K mg base CX0 (k + 1) x ps sp := by
  obtain ⟨f, fd, F, hm⟩ := F
  exact ⟨f, fd, F.ok S len (fun cdv A outer s H vs Q E hr h => by
    obtain ⟨t, h1, h2⟩ := body f cdv A outer s H vs Q E hr h
    exact ⟨t, h1.nox, h2⟩), hm, F.kp, F.bindsN hb⟩
end
section
variable {X : Cx} {CX : CXT} {k : Nat} {x : Str} {ps : List Str} {sp : Sp} {E : XK} {p pos apos : Pos} {e o : Expr} {es : List Expr} {t : TA} {ta : TE}
theorem pe_cal (c : Cal X.prog X.w X.K X.mg X.base CX k x ps sp) (hr : Room k X.A) (hg : Gl X x) (hx : Passes CX X E) (ha : PA X (e :: es) t) (hdb : (x == ("__debug__" : Str)) = false := by decide)
    (he : starEach (e :: es) X.env = (false, eval e X.env) :: starEach es X.env := by rfl) (hpl : (backTo pos (starEach es X.env)).any (·.1) = false := by rfl) : PE X (.Call (.Name x p) (e :: es) [] pos) (tCall sp [] E t) := by
  obtain ⟨f, fd, F, hm, hk, hb⟩ := c.ex
  exact pe_call F hr hg hm hk hb .nil hx ha hdb he hpl
theorem pe_cal0 (c : Cal X.prog X.w X.K X.mg X.base CX k x ps sp) (hr : Room k X.A) (hg : Gl X x) (hx : Passes CX X E) (hdb : (x == ("__debug__" : Str)) = false := by decide) : PE X (.Call (.Name x p) [] [] pos) (tCall sp [] E tNil) := by
  obtain ⟨f, fd, F, hm, hk, hb⟩ := c.ex
  exact pe_call0 F hr hg hm hk hb .nil hx hdb
/-! ### classes -/
/-- the method m of the class at C -/
structure MCal (P : Program) (w : World) (K : PySem.W.Frag) (mg : Str → Option Value) (base : Heap) (CX : CXT) (k : Nat) (C : Addr) (m : Str) (ps : List Str) (sp : Sp) : Prop where
  ex : ∃ f fd, FnOk P w K mg base CX k f fd ps sp ∧ Meth K C m f ∧ Binds K fd ps []
/-- the class x, made by its __init__ -/
structure ICal (P : Program) (w : World) (K : PySem.W.Frag) (mg : Str → Option Value) (base : Heap) (CX : CXT) (k : Nat) (x : Str) (C : Addr) (ps : List Str) (sp : Sp) : Prop where
  ex : ∃ f fd, FnOk P w K mg base CX k f fd ps sp ∧ mg x = some (.ref C) ∧ Mk K C f ∧ Binds K fd ps []
theorem pe_ical {C : Addr} (c : ICal X.prog X.w X.K X.mg X.base CX k x C ps sp) (hr : Room (k + 1) X.A) (hg : Gl X x) (hx : Passes CX X E) (ha : PA X (e :: es) t) (hdb : (x == ("__debug__" : Str)) = false := by decide)
    (he : starEach (e :: es) X.env = (false, eval e X.env) :: starEach es X.env := by rfl) (hpl : (backTo pos (starEach es X.env)).any (·.1) = false := by rfl) : PE X (.Call (.Name x p) (e :: es) [] pos) (tMake C sp [] E t) := by
  obtain ⟨f, fd, F, hm, M, hb⟩ := c.ex
  exact pe_make M F hr hg hm hb .nil hx ha hdb he hpl
/-- o.m(e, ..) where o's class is one of several -/
structure MFam (P : Program) (w : World) (K : PySem.W.Frag) (mg : Str → Option Value) (base : Heap) (CX : CXT) (k : Nat) (m : Str) (Cs : Addr → Sp → Prop) : Prop where
  all : ∀ C sp, Cs C sp → Cls K C ∧ ∃ ps, MCal P w K mg base CX k C m ps sp
def tMethF (Cs : Addr → Sp → Prop) (m : Str) (E : XK) (ta : TE) (t : TA) : TE := fun σ H Q => ta σ H fun x H1 => ∃ a C dx fs sp, x = .ref a ∧ H1 a = some (.ins C dx fs) ∧ Cs C sp ∧ fs.lookup m = none ∧ t σ H1 fun vs H2 => sp (x :: vs) H2 Q E
theorem pe_methF {pl : Sem Bool} {m : Str} {Cs : Addr → Sp → Prop} (c : MFam X.prog X.w X.K X.mg X.base CX k m Cs) (hr : Room k X.A) (he : PE X o ta) (hx : Passes CX X E) (ha : PA X (e :: es) t)
    (hst : starEach (e :: es) X.env = (false, eval e X.env) :: starEach es X.env := by rfl) (hpl : (backTo pos (starEach es X.env)).any (·.1) = false := by rfl)
    (ht : eval (.Call (.Attribute o m apos) (e :: es) [] pos) X.env = (do
      let ov ← eval o X.env
      standAt apos.atName
      let (g, first) ← holding [ov] (getMethod ov m pl)
      callWith pos g first (backTo pos (starEach (e :: es) X.env)) (backToKw pos (keywordEach [] X.env))) := by rfl) :
    PE X (.Call (.Attribute o m apos) (e :: es) [] pos) (tMethF Cs m E ta t) := by
  refine ⟨fun pins s σ H Q I h => ?_⟩
  refine PySem.W.methodCall_KW (pl := pl) (thn (he.run pins s σ H _ I h) fun u s1 ⟨x, H1, I1, rx, a, C, dx, fs, sp, ex, ea, hC, l, q⟩ => ?_) ht
  subst ex
  obtain rfl : u = Value.ref a := rx
  obtain ⟨c1, ps, f, fd, F, hm, hb⟩ := (c.all C sp hC)
  refine getmeth_ok I1 ea c1 hm l ?_
  refine PySem.W.callWith_K (first := [.ref a]) (h₀ := X.base) I.ok.mod.kin hm.kp (thn (ha.run pos pins s1 σ H1 _ I1 q) fun us s2 ⟨vs, H2, I2, r, q2⟩ => ⟨I2.kIn, ?_⟩) hst hpl
  have q3 : sp ((.ref a :: vs) ++ []) H2 Q E := by
    rw [List.append_nil]
    exact q2
  exact run_fn (us := .ref a :: us) (vs := .ref a :: vs) F hr hb .nil hx I2 (.cons rfl r) q3
end
end SC

/-! SCT: promises by data; sizes of ints. -/
namespace SC
open PySem PySem.Spec PyProof.Rows L2 Evl
/-- a promise by data: R what is handed in and what is handed back; n: something new -/
def spF (n : Bool) (R : List PyData → PyData → Prop) : Sp := fun vs H Q _ => ∃ ds d, DtAll H vs ds ∧ R ds d ∧ Kd n d H Q
theorem use_spF {n : Bool} {R : List PyData → PyData → Prop} {ds : List PyData} {d : PyData} {H : Hp} (h : R ds d) : SpR n (spF n R) ds H d := fun vs H1 _ hv Q q E => ⟨ds, d, hv, h, q⟩
section
variable {P : Program} {w : World} {K : PySem.W.Frag} {mg : Str → Option Value} {base : Heap} {N ps : List Str} {k : Nat} {x : Str} {st : Stmt} {n : Bool} {R : List PyData → PyData → Prop}
theorem Cal.ofR (F : FDef K mg x st) (S : FnScope N ps (defScope st)) (len : ∀ ds d, R ds d → ds.length = ps.length)
    (hb : ∀ (kV doc pm : Value) (an : Option Addr) (cdv ct : Value) (us : List Value), us.length = ps.length → bindArgs (PySem.W.fnOf x x (defArgs st) (defBody st) (defScope st) .none kV doc pm an cdv ct) ⟨us, []⟩ = pure (ps.zip us))
    (body : ∀ (f : Addr) (cdv : Value) (A : Around) (outer : List Env) (s : Shared) (H : Hp) (E : XK), Room k (A.deeper (envOfC x (defScope st) s.heap.objs.size f cdv)) → ∀ (vs : List V) (ds : List PyData) (d : PyData) (Q : VK), DtAll H vs ds → R ds d → Kd n d H Q →
      ∃ t, PSs (cx0 CX0 P w K mg base N x st f cdv A outer s H E).nox (defBody st) t ∧ t { nx := fun _ H' => Q .non H', rt := Q } (start N vs) H) : Cal P w K mg base CX0 (k + 1) x ps (spF n R) :=
  Cal.of F S (fun vs H Q E ⟨ds, d, hv, hR, _⟩ => by rw [hv.length]; exact len ds d hR) hb fun f cdv A outer s H vs Q E hr ⟨ds, d, hv, hR, q⟩ => body f cdv A outer s H E hr vs ds d Q hv hR q
end
/-! ### sizes -/
/-- below 2 ^ n -/
def Sz (n : Nat) (i : Int) : Prop := i.natAbs < 2 ^ n
theorem Sz.bits {n : Nat} {i : Int} (h : Sz n i) : Builtin.Int.intBits i ≤ n := by
  unfold Builtin.Int.intBits
  split
  · exact Nat.zero_le _
  · rename_i q
    have p : 0 < i.natAbs := Nat.pos_of_ne_zero (by simpa using q)
    exact (Nat.log2_lt (Nat.ne_of_gt p)).mpr h
theorem Sz.mulX {a b : Nat} {i j : Int} (h1 : Sz a i) (h2 : Sz b j) (h : a + b ≤ 134217728) : CMulX i j := by
  have x := h1.bits
  have y := h2.bits
  show (Builtin.Int.intBits i : Int) + (Builtin.Int.intBits j : Int) ≤ 134217728
  omega
theorem Sz.mono {a b : Nat} {i : Int} (h : Sz a i) (l : a ≤ b) : Sz b i := Nat.lt_of_lt_of_le h (Nat.pow_le_pow_right (by decide) l)
theorem Sz.mul {a b : Nat} {i j : Int} (h1 : Sz a i) (h2 : Sz b j) : Sz (a + b) (i * j) := by
  show (i * j).natAbs < _
  rw [Int.natAbs_mul, Nat.pow_add]
  exact Nat.mul_lt_mul'' h1 h2
theorem Sz.add {a : Nat} {i j : Int} (h1 : Sz a i) (h2 : Sz a j) : Sz (a + 1) (i + j) := by
  have x : i.natAbs < 2 ^ a := h1
  have y : j.natAbs < 2 ^ a := h2
  show (i + j).natAbs < 2 ^ (a + 1)
  rw [Nat.pow_succ]
  omega
theorem Sz.sub {a : Nat} {i j : Int} (h1 : Sz a i) (h2 : Sz a j) : Sz (a + 1) (i - j) := by
  have x : i.natAbs < 2 ^ a := h1
  have y : j.natAbs < 2 ^ a := h2
  show (i - j).natAbs < 2 ^ (a + 1)
  rw [Nat.pow_succ]
  omega
theorem Sz.div {a : Nat} {i j : Int} (h1 : Sz a i) (h : 0 < j) : Sz (a + 1) (i / j) := by
  have x : i.natAbs < 2 ^ a := h1
  show (i / j).natAbs < 2 ^ (a + 1)
  rw [Nat.pow_succ]
  have h0 : -(i.natAbs : Int) ≤ i / j := by
    refine (Int.le_ediv_iff_mul_le h).mpr ?_
    have : -(i.natAbs : Int) * j ≤ -(i.natAbs : Int) * 1 := Int.mul_le_mul_of_nonpos_left (by omega) (by omega)
    omega
  have h2 : i / j ≤ (i.natAbs : Int) := by
    refine Int.ediv_le_of_le_mul h ?_
    have : (i.natAbs : Int) * 1 ≤ (i.natAbs : Int) * j := Int.mul_le_mul_of_nonneg_left (by omega) (by omega)
    omega
  omega
theorem Sz.mod {a : Nat} {i j : Int} (h1 : Sz a j) (h : 0 < j) : Sz a (i % j) := by
  have x : j.natAbs < 2 ^ a := h1
  have y := Int.emod_nonneg i (show j ≠ 0 by omega)
  have z := Int.emod_lt_of_pos i h
  show (i % j).natAbs < 2 ^ a
  omega
theorem Sz.of {a : Nat} {i : Int} (h : -(2 ^ a : Nat) < i ∧ i < (2 ^ a : Nat)) : Sz a i := by
  show i.natAbs < 2 ^ a
  omega
theorem div2 : CDivW i 2 := ⟨by decide, by decide⟩
theorem divW {i j : Int} (h : 0 < j) (h2 : j < 1073741824) : CDivW i j := ⟨h, by
  have : j.natAbs.log2 < 30 := (Nat.log2_lt (by omega)).mpr (by omega)
  omega⟩
theorem Sz.divP {a : Nat} {i j : Int} (h : 0 < j) (h2 : Sz a j) (ha : a ≤ 9000) : CDivP i j := ⟨h, by
  have q : j.natAbs.log2 < a := (Nat.log2_lt (by omega)).mpr h2
  have z := PyProof.noPylong_of_log2 (x := i) (y := j) (by omega)
  exact z⟩
theorem Sz.divW {a : Nat} {i j : Int} (h : 0 < j) (h2 : Sz a j) (ha : a ≤ 9000) : CDivW i j := ⟨h, by
  have q : j.natAbs.log2 < a := (Nat.log2_lt (by omega)).mpr h2
  omega⟩
theorem q_asg {n : Bool} {σ : L2.St} {H : Hp} {te : TE} {d : PyData} {g : TG} {D : Ends} {tz : TS} (h : EvR n te σ H d) (k : ∀ v H1, Ex H H1 → Dt H1 v d → Fr n H v → g v σ H1 (tz D)) : tSeq (tAsg te g) tz D σ H := h H (Ex.refl H) _ k
theorem q_parI {σ : L2.St} {H : Hp} {tas : TA} {i j : Nat} {a b : Int} {D : Ends} {tz : TS} (h : EvAs tas σ H [.int a, .int b]) (k : ∀ H1, Ex H H1 → tz D ((σ.set i (some (.int a))).set j (some (.int b))) H1) : tSeq (tPar i j tas) tz D σ H := h H (Ex.refl H) _ fun vs H1 e1 hv => by
  obtain ⟨v1, v2, rfl, b1, b2⟩ := hv.two
  cases b1.int_inv
  cases b2.int_inv
  exact ⟨_, _, rfl, k H1 e1⟩
/-- divmod(i, j) taken apart -/
theorem d_divmod {σ : L2.St} {H : Hp} {tas : TA} {i j : Int} (h : EvAs tas σ H [.int i, .int j]) (hc : CDivP i j) :
    EvR true (tCB (fun xs H Q => ∃ i j, xs = [.int i, .int j] ∧ CDivP i j ∧ ∀ p, H p = none → Q (.ref p) (upd H p (.tup [.int (i / j), .int (i % j)]))) tas) σ H (.tuple [.int (i / j), .int (i % j)]) := fun H1 e1 Q q =>
  h H1 e1 _ fun vs H2 e2 hv => by
    obtain ⟨v, v2, rfl, h1, h2⟩ := hv.two
    cases h1.int_inv
    cases h2.int_inv
    exact ⟨i, j, rfl, hc, fun p hp => q _ _ (e2.trans (Ex.new hp)) (.tup upd_same (.cons (.int _) (.cons (.int _) .nil))) fun _ => ⟨p, rfl, fresh_back e2 hp⟩⟩
end SC

/-! SCW: webs: ties as data, the list of dicts of who is tied to whom. -/
namespace SC
open PySem PySem.Spec PyProof.Rows L2 Evl
/-- the steps by data -/
local macro_rules | `(tactic| walk_at "rd") => `(tactic| first
  | exact rd_addI | exact rd_i0 | exact rd_b0
  | refine rd_i ?_
  | exact rd_eqD rfl rfl | exact rd_neD rfl rfl)
local macro_rules | `(tactic| walk_at "d") => `(tactic| repeat' first
  | exact d_int | exact d_bl | exact d_non | exact d_str | exact d_vI rfl | exact d_vB rfl | exact d_var rfl (by assumption)
  | apply d_op | exact da_nil | apply da_cons | walk_at "rd")
def pD (p : Int × Int) : PyData := .tuple [.int p.1, .int p.2]
def pL (ps : List (Int × Int)) : List PyData := ps.map pD
theorem pD_flat (p : Int × Int) : flatD (pD p) = true := rfl
theorem pL_at {ps : List (Int × Int)} {i : Nat} {d : PyData} (h : (pL ps)[i]? = some d) : ∃ p, ps[i]? = some p ∧ d = pD p := by
  unfold pL at h
  rw [List.getElem?_map] at h
  cases e : ps[i]? with
  | none =>
    rw [e] at h
    cases h
  | some p =>
    rw [e] at h
    exact ⟨p, rfl, (Option.some.inj h).symm⟩
/-- every tie is of places -/
def InWeb (n : Int) (ps : List (Int × Int)) : Prop := ∀ p ∈ ps, 0 ≤ p.1 ∧ p.1 < n ∧ 0 ≤ p.2 ∧ p.2 < n
/-- whether i and k are tied -/
def nearF (ps : List (Int × Int)) (i k : Int) : Bool := ps.any fun p => decide (p.1 = i ∧ p.2 = k) || decide (p.1 = k ∧ p.2 = i)
theorem nearF_snoc (ps : List (Int × Int)) (p : Int × Int) (i k : Int) : nearF (ps ++ [p]) i k = (nearF ps i k || (decide (p.1 = i ∧ p.2 = k) || decide (p.1 = k ∧ p.2 = i))) := by
  unfold nearF
  rw [List.any_append]
  simp
/-- the list of dicts at v -/
def Nr (H : Hp) (v : V) (n : Nat) (f : Int → Int → Bool) : Prop := ∃ (a : Addr) (ds : List Addr), v = .ref a ∧ H a = some (.lst (ds.map V.ref)) ∧ ds.length = n ∧ ∀ (i : Nat) (d : Addr), ds[i]? = some d → ∃ kvs : List (Key × V), H d = some (.dK kvs) ∧ ∀ k : Int, (valV kvs (.inl k)).isSome = f i k
theorem Nr.ex {H H' : Hp} {v : V} {n : Nat} {f : Int → Int → Bool} (e : Ex H H') (h : Nr H v n f) : Nr H' v n f := by
  obtain ⟨a, ds, rfl, ha, hl, hd⟩ := h
  refine ⟨a, ds, rfl, e _ _ ha, hl, fun i d hi => ?_⟩
  obtain ⟨kvs, h1, h2⟩ := hd i d hi
  exact ⟨kvs, e _ _ h1, h2⟩
/-- k in near[i] -/
theorem rd_near {K : PySem.W.Frag} {H : Hp} {v : V} {n : Nat} {f : Int → Int → Bool} {i k : Int} (h : Nr H v n f) (h0 : 0 ≤ i) (h1 : i < n) :
    ∃ d, (∀ H1, Ex H H1 → ∀ Q : VK, Q (.ref d) H1 → rUIx K v (.int i) H1 Q) ∧ ∀ H1, Ex H H1 → DGet H1 d (.int k) (if f i k then some ((.bl true : V)) else none) ∨ ∃ o : Option V, DGet H1 d (.int k) o ∧ o.isSome = f i k := by
  obtain ⟨a, ds, rfl, ha, hl, hd⟩ := h
  have hi : i.toNat < ds.length := by omega
  obtain ⟨kvs, h2, h3⟩ := hd i.toNat ds[i.toNat] (List.getElem?_eq_getElem hi)
  have e : ((i.toNat : Nat) : Int) = i := by omega
  refine ⟨ds[i.toNat], fun H1 e1 Q q => .inl ⟨a, _, i, _, rfl, rfl, sq_of (e1 _ _ ha), ?_, q⟩, fun H1 e1 => .inr ⟨_, DGet.k (k := Sum.inl k) (e1 _ _ h2), ?_⟩⟩
  · have q := atI_nat (xs := ds.map V.ref) (j := i.toNat) (v := .ref ds[i.toNat]) (by rw [List.getElem?_map, List.getElem?_eq_getElem hi] <;> rfl)
    rw [e] at q
    exact q
  · rw [h3 k, e]
section
variable {K : PySem.W.Frag} {σ : L2.St} {H H' : Hp} {ta tb te tn ti tk : TE} {v : V}
/-- k in near[i], near a name -/
theorem d_near {j : Nat} {n : Nat} {f : Int → Int → Bool} {i k : Int} (hk : EvD tk σ H (.int k)) (hv : σ[j]? = some (some v)) (hn : Nr H v n f) (hi : EvD ti σ H (.int i)) (h0 : 0 ≤ i) (h1 : i < n) :
    EvD (tOp (rUIn K) tk (tOp (rUIx K) (tVar j) ti)) σ H (.bool (f i k)) := fun H1 e1 Q q => hk H1 e1 _ fun x H2 e2 hx _ => ⟨v, hv, hi H2 (e1.trans e2) _ fun y H3 e3 hy _ => by
  cases hx.int_inv
  cases hy.int_inv
  obtain ⟨d, g1, g2⟩ := rd_near (K := K) (k := k) hn h0 h1
  refine g1 H3 ((e1.trans e2).trans e3) _ ?_
  obtain g | ⟨o, g, g'⟩ := g2 H3 ((e1.trans e2).trans e3)
  · refine .inr (.inr ⟨d, _, rfl, g, ?_⟩)
    have e : (if f i k = true then some (V.bl true) else none).isSome = f i k := by cases f i k <;> rfl
    rw [e]
    exact q _ H3 (e2.trans e3) (.bl _) Fr.no
  · refine .inr (.inr ⟨d, o, rfl, g, ?_⟩)
    rw [g']
    exact q _ H3 (e2.trans e3) (.bl _) Fr.no⟩
theorem d_notNear {j : Nat} {n : Nat} {f : Int → Int → Bool} {i k : Int} (hk : EvD tk σ H (.int k)) (hv : σ[j]? = some (some v)) (hn : Nr H v n f) (hi : EvD ti σ H (.int i)) (h0 : 0 ≤ i) (h1 : i < n) :
    EvD (tOp (rUNotIn K) tk (tOp (rUIx K) (tVar j) ti)) σ H (.bool (!f i k)) := fun H1 e1 Q q => hk H1 e1 _ fun x H2 e2 hx _ => ⟨v, hv, hi H2 (e1.trans e2) _ fun y H3 e3 hy _ => by
  cases hx.int_inv
  cases hy.int_inv
  obtain ⟨d, g1, g2⟩ := rd_near (K := K) (k := k) hn h0 h1
  refine g1 H3 ((e1.trans e2).trans e3) _ ?_
  obtain g | ⟨o, g, g'⟩ := g2 H3 ((e1.trans e2).trans e3)
  · refine .inr (.inr ⟨d, _, rfl, g, ?_⟩)
    have e : (if f i k = true then some (V.bl true) else none).isSome = f i k := by cases f i k <;> rfl
    rw [e]
    exact q _ H3 (e2.trans e3) (.bl _) Fr.no
  · refine .inr (.inr ⟨d, o, rfl, g, ?_⟩)
    rw [g']
    exact q _ H3 (e2.trans e3) (.bl _) Fr.no⟩
end
/-- the dicts while they are filled: at a the list, ds the dicts, g who is in, b a bound -/
structure Filling (H0 H : Hp) (a : Addr) (ds : List Addr) (n b : Nat) (g : Int → Int → Bool) : Prop where
  ex : Ex H0 H
  at_ : H a = some (.lst (ds.map V.ref))
  len : ds.length = n
  nd : ds.Nodup
  fr : ∀ d ∈ ds, H0 d = none
  dk : ∀ (i : Nat) (d : Addr), ds[i]? = some d → ∃ kvs : List (Key × V), H d = some (.dK kvs) ∧ kvs.length ≤ b ∧ ∀ k : Int, (valV kvs (.inl k)).isSome = g i k
/-- found[i][k] = True -/
theorem fill_put {K : PySem.W.Frag} {D : Ends} {σ : L2.St} {H0 H : Hp} {a : Addr} {ds : List Addr} {n b : Nat} {g : Int → Int → Bool} {x y z : Nat} {i k : Int} (F : Filling H0 H a ds n b g) (hx : σ[x]? = some (some (.ref a))) (hy : σ[y]? = some (some (.int i))) (hz : σ[z]? = some (some (.int k)))
    (h0 : 0 ≤ i) (h1 : i < n) (hb : b ≤ 1000000) (q : ∀ H', Filling H0 H' a ds n (b + 1) (fun i' k' => g i' k' || decide (i' = i ∧ k' = k)) → D.nx σ H') : sDPut (tOp (rUIx K) (tVar x) (tVar y)) (tVar z) (tC (.bl true)) D σ H := by
  have hi : i.toNat < ds.length := by rw [F.len]; omega
  have e : ((i.toNat : Nat) : Int) = i := by omega
  have hat := List.getElem?_eq_getElem hi
  obtain ⟨kvs, h2, h3, h4⟩ := F.dk i.toNat ds[i.toNat] hat
  refine ⟨_, hx, _, hy, .inl ⟨a, _, i, .ref ds[i.toNat], rfl, rfl, sq_of F.at_, ?_, _, hz, ds[i.toNat], _, rfl, DPut.k (k := Sum.inl k) h2 (Nat.lt_of_le_of_lt (Nat.le_trans h3 hb) (by decide)), q _ ⟨?_, ?_, F.len, F.nd, F.fr, fun j d hj => ?_⟩⟩⟩
  · have z := atI_nat (xs := ds.map V.ref) (j := i.toNat) (v := .ref ds[i.toNat]) (by rw [List.getElem?_map, hat] <;> rfl)
    rw [e] at z
    exact z
  · exact F.ex.mut (F.fr _ (List.getElem_mem hi))
  · rw [upd_ne (ne_of F.at_ h2 (by intro q; cases q))]
    exact F.at_
  · by_cases ej : d = ds[i.toNat]
    · have eij : j = i.toNat := nd_ix F.nd hj (by rw [ej]; exact hat)
      subst eij
      rw [ej]
      refine ⟨_, upd_same, Nat.le_trans (length_putK _ _ _) (Nat.succ_le_succ h3), fun k' => ?_⟩
      rw [valV_put, e]
      by_cases ek : k' = k
      · subst ek
        simp
      · rw [if_neg (fun z => ek (Sum.inl.inj z)), h4 k', e]
        simp [ek]
    · obtain ⟨kvs', g1, g2, g3⟩ := F.dk j d hj
      refine ⟨kvs', by rw [upd_ne ej]; exact g1, Nat.le_succ_of_le g2, fun k' => ?_⟩
      rw [g3 k']
      have nj : ¬ ((j : Int) = i) := fun z => ej (by
        have : j = i.toNat := by omega
        subst this
        rw [hat] at hj
        exact (Option.some.inj hj).symm)
      simp [nj]
def t_near (K : PySem.W.Frag) : TS := tSeq (tAsg (tLc (iRng1 (tCons (tVar 0) tNil)) (gName 3) tYes tDNewK [3]) (gName 2)) (tSeq (tFor (iList K (tVar 1)) (gTup K 2 (gCons (gName 4) (gCons (gName 5) gNil)))
  (tSeq (sDPut (tOp (rUIx K) (tVar 2) (tVar 4)) (tVar 5) (tC (.bl true))) (sDPut (tOp (rUIx K) (tVar 2) (tVar 5)) (tVar 4) (tC (.bl true))))) (tRet (tVar 2)))
/-- what near_of is handed and hands back -/
def spNear : Sp := fun vs H Q _ => ∃ (n : Int) (ps : List (Int × Int)) (v : V), vs = [.int n, v] ∧ Dt H v (.list (pL ps)) ∧ 0 ≤ n ∧ n ≤ 100000 ∧ InWeb n ps ∧ ps.length ≤ 100000 ∧ ∀ v' H', Ex H H' → Nr H' v' n.toNat (nearF ps) → Q v' H'
theorem near_walk {K : PySem.W.Frag} {vs : List V} {H : Hp} {Q : VK} {E : XK} (h : spNear vs H Q E) : t_near K { nx := fun _ H' => Q .non H', rt := Q } (vs.map some ++ List.replicate (6 - vs.length) none) H := by
  obtain ⟨n, ps, v, rfl, hv, h0, h1, hw, hp, k⟩ := h
  refine ⟨.int n, rfl, n, rfl, by omega, by omega, fun Dl hD => ?_⟩
  refine lc_it (walk_range (lo := 0) (n := n.toNat)) (fun i H' => ∃ ds, Filling H H' Dl ds i 0 (fun _ _ => false)) ⟨[], ⟨Ex.new hD, upd_same, rfl, List.nodup_nil, (fun _ z => nomatch z), fun _ _ z => nomatch z⟩⟩ (fun _ _ _ _ => trivial) ?_ ?_
  · rintro i x H1 H2 hi ⟨ds, F⟩ ⟨y1, y2⟩
    subst y1
    refine ⟨rfl, fun d hd => ⟨_, by rw [upd_ne (ne_of_none F.at_ hd)]; exact F.at_, Nat.lt_of_le_of_lt (show (ds.map V.ref).length ≤ 100000 by rw [List.length_map, F.len]; omega) (by decide), ds ++ [d], ?_⟩⟩
    have nd : Dl ≠ d := ne_of_none F.at_ hd
    have ndd : ∀ c ∈ ds, c ≠ d := fun c hc => by
      obtain ⟨j, hj⟩ := List.getElem?_of_mem hc
      obtain ⟨kvs, g1, _⟩ := F.dk j c hj
      exact ne_of_none g1 hd
    refine ⟨(F.ex.trans (Ex.new hd)).mut hD, ?_, by rw [List.length_append, F.len]; rfl, ?_, ?_, ?_⟩
    · rw [upd_same, List.map_append]
      rfl
    · exact List.nodup_append.mpr ⟨F.nd, List.pairwise_singleton _ _, fun c hc b hb => by
        rw [List.mem_singleton.mp hb]
        exact ndd c hc⟩
    · intro c hc
      rcases List.mem_append.mp hc with hc | hc
      · exact F.fr c hc
      · rw [List.mem_singleton.mp hc]
        exact fresh_back F.ex hd
    · intro j c hj
      by_cases hlt : j < ds.length
      · rw [List.getElem?_append_left hlt] at hj
        obtain ⟨kvs, g1, g2, g3⟩ := F.dk j c hj
        have hc : c ∈ ds := List.mem_of_getElem? hj
        refine ⟨kvs, ?_, g2, g3⟩
        rw [upd_ne (fun z => by rw [z, F.at_] at g1; cases g1), upd_ne (ndd c hc)]
        exact g1
      · rw [List.getElem?_append_right (by omega)] at hj
        have ec : c = d := by
          cases hq : j - ds.length with
          | zero =>
            rw [hq] at hj
            exact (Option.some.inj hj).symm
          | succ m =>
            rw [hq] at hj
            cases hj
        rw [ec]
        exact ⟨[], by rw [upd_ne nd.symm, upd_same], Nat.le_refl _, fun _ => rfl⟩
  · rintro H1 ⟨ds, F⟩
    refine s_forB (Hb := H) (ds := pL ps) (dwb_list F.ex rfl hv) (fun i σ' H' => ∃ x3 x4 x5, σ' = [some (.int n), some v, some (.ref Dl), x3, x4, x5] ∧ Filling H H' Dl ds n.toNat (2 * i) (nearF (ps.take i))) ⟨_, _, _, rfl, F⟩ ?_ ?_
    · rintro i d x σ' H2 H3 hd e2 ⟨x3, x4, x5, rfl, F2⟩ e3 hx N hN
      obtain ⟨p, hp2, rfl⟩ := pL_at hd
      have hpm : p ∈ ps := List.mem_of_getElem? hp2
      have hil : i < ps.length := (List.getElem?_eq_some_iff.mp hp2).1
      obtain ⟨w1, w2, w3, w4⟩ := hw p hpm
      refine g_pair hx fun v1 v2 q1 q2 => ?_
      cases q1.int_inv
      cases q2.int_inv
      have F3 : Filling H H3 Dl ds n.toNat (2 * i) (nearF (ps.take i)) := ⟨F2.ex.trans e3, e3 _ _ F2.at_, F2.len, F2.nd, F2.fr, fun j c hj => by
        obtain ⟨kvs, g1, g2⟩ := F2.dk j c hj
        exact ⟨kvs, e3 _ _ g1, g2⟩⟩
      refine fill_put (D := { nx := _, ct := N, bk := _, rt := Q }) F3 rfl rfl rfl w1 (by omega) (by omega) fun H4 F4 => ?_
      refine fill_put (D := { nx := N, ct := N, bk := _, rt := Q }) F4 rfl rfl rfl w3 (by omega) (by omega) fun H5 F5 => ?_
      refine hN _ _ F5.ex ⟨_, _, _, rfl, ?_⟩
      have eg : nearF (ps.take (i + 1)) = fun i' k' => (nearF (ps.take i) i' k' || decide (i' = p.1 ∧ k' = p.2)) || decide (i' = p.2 ∧ k' = p.1) := by
        funext i' k'
        rw [List.take_add_one, hp2]
        show nearF (ps.take i ++ [p]) i' k' = _
        rw [nearF_snoc, Bool.or_assoc]
        have a1 : decide (p.1 = i' ∧ p.2 = k') = decide (i' = p.1 ∧ k' = p.2) := decide_eq_decide.mpr ⟨fun ⟨a, b⟩ => ⟨a.symm, b.symm⟩, fun ⟨a, b⟩ => ⟨a.symm, b.symm⟩⟩
        have a2 : decide (p.1 = k' ∧ p.2 = i') = decide (i' = p.2 ∧ k' = p.1) := decide_eq_decide.mpr ⟨fun ⟨a, b⟩ => ⟨b.symm, a.symm⟩, fun ⟨a, b⟩ => ⟨b.symm, a.symm⟩⟩
        rw [a1, a2]
      rw [eg]
      exact F5
    · rintro σ' H2 e2 ⟨x3, x4, x5, rfl, F2⟩
      refine ⟨_, rfl, k _ _ e2 ⟨Dl, ds, rfl, F2.at_, F2.len, fun i d hi => ?_⟩⟩
      obtain ⟨kvs, g1, _, g3⟩ := F2.dk i d hi
      refine ⟨kvs, g1, fun k => ?_⟩
      rw [g3 k]
      have e : (pL ps).length = ps.length := by simp [pL]
      rw [e, List.take_length]
end SC

/-! SCX: comprehensions over lists of one kind; all, any, sum over them. -/
namespace SC
open PySem PySem.Spec PyProof.Rows L2 Evl
section
variable {n : Bool} {K : PySem.W.Frag} {σ : L2.St} {H H' : Hp} {ta tb te tl : TE} {t u : TT} {x y v : V} {d e dx dy : PyData} {ds es : List PyData} {tas : TA} {α : Type}
theorem d_lcF {wi : TI} {g : TG} {tt : TT} {vs : List Nat} {l : List α} {emb : α → PyData} (p : α → Bool) (f : α → PyData) (h : DW wi σ H (l.map emb)) (hz : l.length ≤ 1000000) (hf : ∀ a ∈ l, p a = true → flatD (f a) = true)
    (ht : ∀ a ∈ l, ∀ x H1, Ex H H1 → Dt H1 x (emb a) → Turn1 false g tt te vs σ H1 x (p a) (f a)) : EvR true (tLc wi g tt te vs) σ H (.list ((l.filter p).map f)) := fun H0 e0 Q q => h H0 e0 _ fun J H1 e1 w Dl hD => by
  refine lc_it w (fun i H' => Ex H1 H' ∧ ∃ acc, H' Dl = some (.lst acc) ∧ acc.length ≤ i ∧ DtAll H' acc (((l.take i).filter p).map f)) ⟨Ex.new hD, [], upd_same, Nat.le_refl _, .nil⟩ (fun i H' _ p => p.1) ?_ ?_
  · rintro i x H2 H3 hi ⟨e2, acc, ha, hl, hacc⟩ ⟨e3, d, hd, hx⟩
    rw [List.length_map] at hi
    rw [List.getElem?_map] at hd
    have hat : l[i]? = some l[i] := List.getElem?_eq_getElem hi
    rw [hat] at hd
    cases hd
    have hmem : l[i] ∈ l := List.getElem_mem hi
    obtain ⟨σ2, w2, hg, hT, hE⟩ := (ht l[i] hmem x H3 (((e0.trans e1).trans e2).trans e3) hx).ex
    refine hg _ ⟨w2, hT H3 (Ex.refl _) _ fun H4 e4 => ?_⟩
    have tk : l.take (i + 1) = l.take i ++ [l[i]] := by rw [List.take_add_one, hat]; rfl
    cases hp : p l[i] with
    | false =>
      refine ⟨(e2.trans e3).trans e4, acc, e4 _ _ (e3 _ _ ha), by omega, ?_⟩
      rw [tk, List.filter_append, List.filter_cons_of_neg (by rw [hp]; decide), List.filter_nil, List.append_nil]
      exact hacc.ex (e3.trans e4)
    | true =>
      show te σ2 H4 _
      refine hE hp H4 e4 _ fun y H5 e5 hy _ => ⟨acc, e5 _ _ (e4 _ _ (e3 _ _ ha)), Nat.lt_of_le_of_lt (show acc.length ≤ 1000000 by omega) (by decide), ?_⟩
      have e15 : Ex H1 H5 := ((e2.trans e3).trans e4).trans e5
      refine ⟨Ex.mut e15 hD, _, upd_same, by rw [List.length_append]; exact Nat.succ_le_succ hl, ?_⟩
      rw [tk, List.filter_append, List.filter_cons_of_pos hp, List.filter_nil, List.map_append]
      refine (DtAll.append (hacc.ex ((e3.trans e4).trans e5)) (.cons hy .nil)).updF (e5 _ _ (e4 _ _ (e3 _ _ ha))) ?_
      rw [flatAll_append, flatAll_mem (ds := List.map f _), Bool.true_and]
      · exact flatAll_mem fun z hz => by
          cases List.mem_singleton.mp hz
          exact hf _ hmem hp
      · intro z hz
        obtain ⟨c, hc, rfl⟩ := List.mem_map.mp hz
        obtain ⟨c1, c2⟩ := List.mem_filter.mp hc
        exact hf c (List.mem_of_mem_take c1) c2
  · rintro H' ⟨e2, acc, ha, hl, hacc⟩
    rw [List.length_map, List.take_length] at hacc
    exact q _ H' (e1.trans e2) (.lst ha hacc) fun _ => ⟨Dl, rfl, fresh_back e1 hD⟩
theorem d_lcM {wi : TI} {g : TG} {tt : TT} {vs : List Nat} {l : List α} {emb : α → PyData} (f : α → PyData) (h : DW wi σ H (l.map emb)) (hz : l.length ≤ 1000000) (hf : ∀ a ∈ l, flatD (f a) = true)
    (ht : ∀ a ∈ l, ∀ x H1, Ex H H1 → Dt H1 x (emb a) → Turn1 false g tt te vs σ H1 x true (f a)) : EvR true (tLc wi g tt te vs) σ H (.list (l.map f)) := by
  have q := d_lcF (te := te) (g := g) (tt := tt) (vs := vs) (fun _ => true) f h hz (fun a ha _ => hf a ha) ht
  rw [filter_true] at q
  exact q
theorem bL_map (l : List α) (g : α → Bool) : l.map (fun a => PyData.bool (g a)) = bL (l.map g) := by
  unfold bL
  rw [List.map_map] <;> rfl
theorem iL_map (l : List α) (g : α → Int) : l.map (fun a => PyData.int (g a)) = iL (l.map g) := by
  unfold iL
  rw [List.map_map] <;> rfl
theorem rc_allM {l : List α} {g : α → Bool} : RCD false (rAll K) [.list (l.map fun a => .bool (g a))] H (.bool (l.all g)) := by
  rw [bL_map]
  have e : l.all g = (l.map g).all id := by rw [List.all_map] <;> rfl
  rw [e]
  exact rc_all
theorem rc_anyM {l : List α} {g : α → Bool} : RCD false (rAny K) [.list (l.map fun a => .bool (g a))] H (.bool (l.any g)) := by
  rw [bL_map]
  have e : l.any g = (l.map g).any id := by rw [List.any_map] <;> rfl
  rw [e]
  exact rc_any
theorem rc_sumM {l : List α} {g : α → Int} : RCD false (rSum K) [.list (l.map fun a => .int (g a))] H (.int (l.map g).sum) := by
  rw [iL_map]
  exact rc_sum
/-- a call of a built-in on one argument -/
theorem d_cb1 {r : List V → Hp → VK → Prop} {m : Bool} (h : EvR m te σ H d) (hr : RCD n r [d] H e) : EvR n (tCB r (tCons te tNil)) σ H e := d_cb (da_cons h.weak da_nil) hr
/-- data that the comparisons take -/
theorem sh_int (i : Int) : SeqAt.shaped (.int i) = true := rfl
theorem lay_iL : ∀ (ns : List Int), PyData.canLayAll0 (iL ns) = true
  | [] => by simp [iL, PyData.canLayAll0]
  | n :: ns => by
    have h := lay_iL ns
    show PyData.canLayAll0 (.int n :: iL ns) = true
    simp [PyData.canLayAll0, PyData.canLay0, h]
theorem dep_iL : ∀ (ns : List Int), PyData.depthAll (iL ns) ≤ 1
  | [] => by simp [iL, PyData.depthAll]
  | n :: ns => by
    have h := dep_iL ns
    show PyData.depthAll (.int n :: iL ns) ≤ 1
    simp only [PyData.depthAll, PyData.depth]
    omega
theorem sh_iL (ns : List Int) : SeqAt.shaped (.list (iL ns)) = true := by
  have h1 := dep_iL ns
  have h2 : PyData.depth (.list (iL ns)) ≤ 64 := by
    simp only [PyData.depth]
    omega
  show (PyData.canLay0 (.list (iL ns)) && decide (PyData.depth (.list (iL ns)) ≤ 64)) = true
  rw [Bool.and_eq_true]
  exact ⟨by simp only [PyData.canLay0]; exact lay_iL ns, decide_eq_true h2⟩
theorem eqv_int (i j : Int) : PyData.eqv (.int i) (.int j) = decide (i = j) := by
  simp only [PyData.eqv]
  by_cases h : i = j
  · subst h; simp
  · rw [decide_eq_false h]
    exact beq_eq_false_iff_ne.mpr h
theorem eqv_bool (i j : Bool) : PyData.eqv (.bool i) (.bool j) = decide (i = j) := by
  cases i <;> cases j <;> rfl
theorem eqvAll_iL : ∀ (ns ms : List Int), PyData.eqvAll (iL ns) (iL ms) = decide (ns = ms)
  | [], [] => rfl
  | [], _ :: _ => rfl
  | _ :: _, [] => rfl
  | n :: ns, m :: ms => by
    show PyData.eqvAll (.int n :: iL ns) (.int m :: iL ms) = _
    have h := eqvAll_iL ns ms
    simp only [PyData.eqvAll, eqv_int, h]
    by_cases e : n = m
    · by_cases e2 : ns = ms
      · subst e e2; simp
      · simp [e2]
    · simp [e]
theorem eqv_iL (ns ms : List Int) : PyData.eqv (.list (iL ns)) (.list (iL ms)) = decide (ns = ms) := by
  simp only [PyData.eqv]
  exact eqvAll_iL ns ms
theorem eqv_pD (p q : Int × Int) : PyData.eqv (pD p) (pD q) = decide (p = q) := by
  obtain ⟨a, b⟩ := p
  obtain ⟨c, d⟩ := q
  simp only [pD, PyData.eqv, PyData.eqvAll]
  by_cases e1 : a = c
  · by_cases e2 : b = d
    · subst e1 e2; simp
    · simp [e2]
  · simp [e1]
theorem sh_pD (p : Int × Int) : SeqAt.shaped (pD p) = true := by
  simp [SeqAt.shaped, pD, PyData.canLay0, PyData.canLayAll0, PyData.depth, PyData.depthAll]
theorem lay_pL : ∀ (ps : List (Int × Int)), PyData.canLayAll0 (pL ps) = true
  | [] => by simp [pL, PyData.canLayAll0]
  | p :: ps => by
    have h := lay_pL ps
    show PyData.canLayAll0 (pD p :: pL ps) = true
    simp [PyData.canLayAll0, PyData.canLay0, pD, h]
theorem dep_pL : ∀ (ps : List (Int × Int)), PyData.depthAll (pL ps) ≤ 3
  | [] => by simp [pL, PyData.depthAll]
  | p :: ps => by
    have h := dep_pL ps
    have h2 : PyData.depth (pD p) ≤ 3 := by simp [pD, PyData.depth, PyData.depthAll]
    show PyData.depthAll (pD p :: pL ps) ≤ 3
    simp only [PyData.depthAll]
    omega
theorem sh_pL (ps : List (Int × Int)) : SeqAt.shaped (.list (pL ps)) = true := by
  have h1 := dep_pL ps
  have h2 : PyData.depth (.list (pL ps)) ≤ 64 := by
    simp only [PyData.depth]
    omega
  show (PyData.canLay0 (.list (pL ps)) && decide (PyData.depth (.list (pL ps)) ≤ 64)) = true
  rw [Bool.and_eq_true]
  exact ⟨by simp only [PyData.canLay0]; exact lay_pL ps, decide_eq_true h2⟩
theorem eqvAll_pL : ∀ (ns ms : List (Int × Int)), PyData.eqvAll (pL ns) (pL ms) = decide (ns = ms)
  | [], [] => rfl
  | [], _ :: _ => rfl
  | _ :: _, [] => rfl
  | n :: ns, m :: ms => by
    show PyData.eqvAll (pD n :: pL ns) (pD m :: pL ms) = _
    have h := eqvAll_pL ns ms
    simp only [PyData.eqvAll, eqv_pD, h]
    by_cases e : n = m
    · by_cases e2 : ns = ms
      · subst e e2; simp
      · simp [e2]
    · simp [e]
theorem eqv_pL (ns ms : List (Int × Int)) : PyData.eqv (.list (pL ns)) (.list (pL ms)) = decide (ns = ms) := by
  simp only [PyData.eqv]
  exact eqvAll_pL ns ms
/-! the comparisons that occur -/
theorem rd_eqI {i j : Int} : RD false (rEqD K) (.int i) (.int j) H (.bool (decide (i = j))) := by
  rw [← eqv_int]
  exact rd_eqD rfl rfl
theorem rd_neI {i j : Int} : RD false (rNeD K) (.int i) (.int j) H (.bool (!decide (i = j))) := by
  rw [← eqv_int]
  exact rd_neD rfl rfl
theorem rd_eqB {i j : Bool} : RD false (rEqD K) (.bool i) (.bool j) H (.bool (decide (i = j))) := by
  rw [← eqv_bool]
  exact rd_eqD rfl rfl
theorem rd_neB {i j : Bool} : RD false (rNeD K) (.bool i) (.bool j) H (.bool (!decide (i = j))) := by
  rw [← eqv_bool]
  exact rd_neD rfl rfl
theorem rd_eqL {i j : List Int} : RD false (rEqD K) (.list (iL i)) (.list (iL j)) H (.bool (decide (i = j))) := by
  rw [← eqv_iL]
  exact rd_eqD (sh_iL _) (sh_iL _)
theorem rd_neL {i j : List Int} : RD false (rNeD K) (.list (iL i)) (.list (iL j)) H (.bool (!decide (i = j))) := by
  rw [← eqv_iL]
  exact rd_neD (sh_iL _) (sh_iL _)
theorem rd_eqP {i j : Int × Int} : RD false (rEqD K) (pD i) (pD j) H (.bool (decide (i = j))) := by
  rw [← eqv_pD]
  exact rd_eqD (sh_pD _) (sh_pD _)
theorem rd_neP {i j : Int × Int} : RD false (rNeD K) (pD i) (pD j) H (.bool (!decide (i = j))) := by
  rw [← eqv_pD]
  exact rd_neD (sh_pD _) (sh_pD _)
theorem rd_neQ {i j : List (Int × Int)} : RD false (rNeD K) (.list (pL i)) (.list (pL j)) H (.bool (!decide (i = j))) := by
  rw [← eqv_pL]
  exact rd_neD (sh_pL _) (sh_pL _)
theorem any_eqI (l : List Int) (k : Int) : ((iL l).any fun z => PyData.eqv z (.int k)) = decide (k ∈ l) := by
  unfold iL
  rw [List.any_map, show ((fun z => PyData.eqv z (.int k)) ∘ PyData.int) = fun i => decide (i = k) from funext fun i => eqv_int i k]
  rw [Bool.eq_iff_iff, List.any_eq_true, decide_eq_true_eq]
  constructor
  · rintro ⟨z, hz, e⟩
    rw [← of_decide_eq_true e]
    exact hz
  · intro hz
    exact ⟨k, hz, decide_eq_true rfl⟩
theorem any_eqP (l : List (Int × Int)) (k : Int × Int) : ((pL l).any fun z => PyData.eqv z (pD k)) = decide (k ∈ l) := by
  unfold pL
  rw [List.any_map, show ((fun z => PyData.eqv z (pD k)) ∘ pD) = fun i => decide (i = k) from funext fun i => eqv_pD i k]
  rw [Bool.eq_iff_iff, List.any_eq_true, decide_eq_true_eq]
  constructor
  · rintro ⟨z, hz, e⟩
    rw [← of_decide_eq_true e]
    exact hz
  · intro hz
    exact ⟨k, hz, decide_eq_true rfl⟩
theorem rd_inI {k : Int} {l : List Int} : RD false (rUIn K) (.int k) (.list (iL l)) H (.bool (decide (k ∈ l))) := by
  rw [← any_eqI]
  exact rd_uInL rfl (sh_iL _)
theorem rd_notInI {k : Int} {l : List Int} : RD false (rUNotIn K) (.int k) (.list (iL l)) H (.bool (!decide (k ∈ l))) := by
  rw [← any_eqI]
  exact rd_uNotInL rfl (sh_iL _)
theorem rd_inP {k : Int × Int} {l : List (Int × Int)} : RD false (rUIn K) (pD k) (.list (pL l)) H (.bool (decide (k ∈ l))) := by
  rw [← any_eqP]
  exact rd_uInL (sh_pD _) (sh_pL _)
theorem rd_notInP {k : Int × Int} {l : List (Int × Int)} : RD false (rUNotIn K) (pD k) (.list (pL l)) H (.bool (!decide (k ∈ l))) := by
  rw [← any_eqP]
  exact rd_uNotInL (sh_pD _) (sh_pL _)
/-- an index of a list, of one kind -/
theorem at_map {l : List α} {emb : α → PyData} {a : α} {i : Nat} (h : l[i]? = some a) : atI (l.map emb) (i : Int) = some (emb a) := atI_nat (by rw [List.getElem?_map, h] <;> rfl)
theorem at_int {xs : List PyData} {i : Int} {j : Nat} {d : PyData} (e : i = (j : Int)) (h : xs[j]? = some d) : atI xs i = some d := by
  rw [e]
  exact atI_nat h
end
/-! ### the rules with the written part named -/
section
variable {X : Cx} {K : PySem.W.Frag} {w : World} (e : X.K = K) (ew : X.w = w)
theorem op_eqK (e : X.K = K) (hu : X.A.units + 64 < cLine) : OpR X (compareOp .Eq) (rEqD K) := e ▸ op_eqD hu
theorem op_neK (e : X.K = K) (hu : X.A.units + 64 < cLine) : OpR X (compareOp .NotEq) (rNeD K) := e ▸ op_neD hu
theorem op_inK (e : X.K = K) (hu : X.A.units + 65 < cLine) : OpR X (compareOp .In) (rUIn K) := e ▸ op_uIn hu
theorem op_notInK (e : X.K = K) (hu : X.A.units + 65 < cLine) : OpR X (compareOp .NotIn) (rUNotIn K) := e ▸ op_uNotIn hu
theorem ix_K (e : X.K = K) : IxR X (rUIx K) := e ▸ ix_u
theorem sl_K (e : X.K = K) : SlR X (rSlL K) := e ▸ sl_list
theorem call_lenK (e : X.K = K) (ew : X.w = w) : CallR X (.builtin "len") (rULen K w) := e ▸ ew ▸ call_uLen
theorem cr_sortedK (e : X.K = K) (ew : X.w = w) (hc : X.calm = true) : CallR X (.builtin "sorted") (rUSorted K w) := e ▸ ew ▸ cr_uSorted hc
theorem cr_setK (e : X.K = K) (ew : X.w = w) (hc : X.calm = true) : CallR X (.type "set") (rSetI K w) := e ▸ ew ▸ cr_setI hc
theorem cr_sumK (e : X.K = K) (hc : X.calm = true) : CallR X (.builtin "sum") (rSum K) := e ▸ cr_sum hc
theorem cr_maxK (e : X.K = K) (hc : X.calm = true) : CallR X (.builtin "max") (rMax K) := e ▸ cr_max hc
theorem cr_minK (e : X.K = K) (hc : X.calm = true) : CallR X (.builtin "min") (rMin K) := e ▸ cr_min hc
theorem cr_allK (e : X.K = K) (hc : X.calm = true) : CallR X (.builtin "all") (rAll K) := e ▸ cr_all hc
theorem cr_anyK (e : X.K = K) (hc : X.calm = true) : CallR X (.builtin "any") (rAny K) := e ▸ cr_any hc
theorem cr_listK (e : X.K = K) : CallR X (.type "list") (rListOf K) := e ▸ cr_listOf
theorem call_isiK1 (e : X.K = K) : CallR X (.builtin "isinstance") (rIsi K) := e ▸ call_isi
theorem pe_fldK {o : Expr} {f : Str} {pos : Pos} {ta : TE} (e : X.K = K) (he : PE X o ta) (hb : attributeBase o f X.env (eval o X.env) = eval o X.env) : PE X (.Attribute o f pos) (tFld K ta f) := e ▸ pe_fld he hb
theorem pi_listK {tg l : Expr} {tl : TE} (e : X.K = K) (h : PE X l tl) : PI X tg l (iList K tl) := e ▸ pi_list h
theorem pi_tupK {tg l : Expr} {tl : TE} (e : X.K = K) (h : PE X l tl) : PI X tg l (iTup K tl) := e ▸ pi_tup h
theorem pg_tupK {es : List Expr} {k : Nat} {t : TGs} {n : Nat} {pos : Pos} (e : X.K = K) (hc : X.calm = true) (h : PGs X es t)
    (hn : (assignEach es X.env).length = n := by rfl) (hst : (assignEach es X.env).findIdx? (·.1) = none := by rfl) : PG X (.Tuple es k pos) (gTup K n t) := e ▸ pg_tup hc h hn hst
end
section
variable {α : Type} {emb : α → PyData} {l : List α}
theorem cut_from (j : Nat) : cutD (l.map emb) (some (j : Int)) none = (l.drop j).map emb := by
  unfold cutD
  rw [HT.sIx_nat, HT.sIx_none, List.length_map, ← List.map_drop, List.take_of_length_le (by rw [List.length_map, List.length_drop]; omega)]
  by_cases h : j ≤ l.length
  · rw [Nat.min_eq_left h]
  · rw [Nat.min_eq_right (by omega), List.drop_length, List.drop_of_length_le (by omega)]
theorem cut_to (j : Nat) : cutD (l.map emb) none (some (j : Int)) = (l.take j).map emb := by
  unfold cutD
  rw [HT.sIx_nat, HT.sIx_none, List.length_map, List.drop_zero, Nat.sub_zero, ← List.map_take]
  by_cases h : j ≤ l.length
  · rw [Nat.min_eq_left h]
  · rw [Nat.min_eq_right (by omega), List.take_length, List.take_of_length_le (by omega)]
theorem en_at {i : Nat} {d : PyData} (h : (enD 0 (l.map emb))[i]? = some d) : ∃ a, l[i]? = some a ∧ d = .tuple [.int (i : Nat), emb a] := by
  have hi : i < l.length := by
    have q := (List.getElem?_eq_some_iff.mp h).1
    rw [enD_len, List.length_map] at q
    exact q
  have q := enD_at (ds := l.map emb) (k := 0) (i := i) (d := emb l[i]) (by rw [List.getElem?_map, List.getElem?_eq_getElem hi] <;> rfl)
  rw [h, Nat.zero_add] at q
  exact ⟨l[i], List.getElem?_eq_getElem hi, Option.some.inj q⟩
theorem map_at {i : Nat} {d : PyData} (h : (l.map emb)[i]? = some d) : ∃ a, l[i]? = some a ∧ d = emb a := by
  rw [List.getElem?_map] at h
  cases e : l[i]? with
  | none =>
    rw [e] at h
    cases h
  | some p =>
    rw [e] at h
    exact ⟨p, rfl, (Option.some.inj h).symm⟩
theorem drop_at {i : Nat} {a : α} (h : l[i]? = some a) : l.drop i = a :: l.drop (i + 1) := by
  obtain ⟨hi, e⟩ := List.getElem?_eq_some_iff.mp h
  rw [List.drop_eq_getElem_cons hi, e]
theorem take_at {i : Nat} {a : α} (h : l[i]? = some a) : l.take (i + 1) = l.take i ++ [a] := by
  rw [List.take_add_one, h]
  rfl
end
end SC

/-! SCM: what the defs reckon, in plain Lean. -/
namespace SC
/-- f holds of any two of them -/
def pairsB (f : Int → Int → Bool) : List Int → Bool
  | [] => true
  | x :: r => r.all (f x) && pairsB f r
def inRg (n : Int) (xs : List Int) : Bool := xs.all fun x => decide (0 ≤ x) && decide (x < n)
def isCrowd (n : Int) (ps : List (Int × Int)) (xs : List Int) : Bool := decide (xs = sset xs) && (inRg n xs && pairsB (nearF ps) xs)
theorem inRg_mem {n : Int} {xs : List Int} (h : inRg n xs = true) {x : Int} (hx : x ∈ xs) : 0 ≤ x ∧ x < n := by
  have q := List.all_eq_true.mp h x hx
  rw [Bool.and_eq_true, decide_eq_true_eq, decide_eq_true_eq] at q
  exact q
theorem or_false_inv {a b : Bool} (h : (a || b) = false) : a = false ∧ b = false := by
  cases a <;> cases b <;> first | exact ⟨rfl, rfl⟩ | cases h
theorem not_false_inv {a : Bool} (h : (!a) = false) : a = true := by
  cases a
  · cases h
  · rfl
theorem not_true_inv {a : Bool} (h : (!a) = true) : a = false := by
  cases a
  · rfl
  · cases h
theorem or_true_inv {a b : Bool} (h : (a || b) = true) : a = true ∨ b = true := by
  cases a
  · exact .inr h
  · exact .inl rfl
theorem and_f {a b : Bool} (h : a = false ∨ b = false) : (a && b) = false := by
  rcases h with h | h
  · rw [h]; rfl
  · rw [h, Bool.and_false]
theorem nearF_symm (ps : List (Int × Int)) (i k : Int) : nearF ps i k = nearF ps k i := by
  unfold nearF
  refine congrArg (fun g => ps.any g) (funext fun p => Bool.or_comm _ _)
theorem pairsB_snoc {f : Int → Int → Bool} : ∀ (xs : List Int) (x : Int), pairsB f (xs ++ [x]) = (pairsB f xs && xs.all fun y => f y x)
  | [], x => rfl
  | y :: r, x => by
    show ((r ++ [x]).all (f y) && pairsB f (r ++ [x])) = ((r.all (f y) && pairsB f r) && (f y x && r.all fun y => f y x))
    rw [pairsB_snoc r x, List.all_append]
    simp only [List.all_cons, List.all_nil, Bool.and_true]
    cases r.all (f y) <;> cases f y x <;> cases pairsB f r <;> cases (r.all fun y => f y x) <;> rfl
theorem sset_idem_eq {xs : List Int} (h : xs = sset xs) : xs.Pairwise (· < ·) := by
  rw [h]
  exact sset_lt xs
/-! ### groups -/
def gD (g : List Int) : PySem.PyData := .list (iL g)
def gL (gs : List (List Int)) : List PySem.PyData := gs.map gD
def grpBad (g seen : List Int) : Bool := decide (g = []) || (!decide (g = sset g) || g.any fun x => decide (x ∈ seen))
def grpGo : List (List Int) → List Int → Bool
  | [], _ => true
  | g :: r, seen => !grpBad g seen && grpGo r (seen ++ g)
/-- the group that holds x, by its place -/
def homeF (gs : List (List Int)) (x : Int) : Nat := gs.findIdx fun g => decide (x ∈ g)
def sqs (gs : List (List Int)) : Int := (gs.map fun g => (g.length : Int) * (g.length : Int)).sum
def areGroups (n : Int) (ps : List (Int × Int)) (gs : List (List Int)) : Bool := grpGo gs [] && (decide (srt gs.flatten = rgI 0 n) &&
  (decide (2 * (ps.length : Int) = n * n - sqs gs) && ps.all fun p => !decide ((homeF gs p.1 : Int) = (homeF gs p.2 : Int))))
theorem homeF_at {gs : List (List Int)} {i : Nat} {g : List Int} {x : Int} (h : gs[i]? = some g) (hx : x ∈ g) (hn : x ∉ (gs.take i).flatten) : homeF gs x = i := by
  obtain ⟨hi, e⟩ := List.getElem?_eq_some_iff.mp h
  unfold homeF
  refine (List.findIdx_eq hi).mpr ⟨?_, fun j hj => ?_⟩
  · rw [e]
    exact decide_eq_true hx
  · refine decide_eq_false fun z => hn (List.mem_flatten.mpr ⟨gs[j], ?_, z⟩)
    exact List.mem_take_iff_getElem.mpr ⟨j, by omega, rfl⟩
theorem flatten_take {gs : List (List Int)} {i : Nat} {g : List Int} (h : gs[i]? = some g) : (gs.take (i + 1)).flatten = (gs.take i).flatten ++ g := by
  rw [take_at h, List.flatten_append]
  simp
theorem flatten_len {gs : List (List Int)} (b : Nat) (h : ∀ g ∈ gs, g.length ≤ b) : gs.flatten.length ≤ gs.length * b := by
  induction gs with
  | nil => simp
  | cons g r ih =>
    have h1 := h g List.mem_cons_self
    have h2 := ih fun z hz => h z (List.mem_cons_of_mem _ hz)
    rw [List.flatten_cons, List.length_append, List.length_cons, Nat.succ_mul]
    omega
/-! ### the law's own reckoning -/
def homeL (gs : List (List Int)) (x : Int) : Nat := gs.length - 1 - gs.reverse.findIdx fun g => decide (x ∈ g)
theorem homeL_snoc (gs : List (List Int)) (g : List Int) (x : Int) : homeL (gs ++ [g]) x = if x ∈ g then gs.length else homeL gs x := by
  unfold homeL
  rw [List.reverse_append, List.length_append]
  show gs.length + 1 - 1 - (g :: gs.reverse).findIdx _ = _
  rw [List.findIdx_cons]
  by_cases h : x ∈ g
  · rw [if_pos h, decide_eq_true h]
    simp
  · rw [if_neg h, decide_eq_false h]
    show gs.length + 1 - 1 - (gs.reverse.findIdx _ + 1) = _
    omega
def crossS (n : Int) (gs : List (List Int)) : Int := (gs.map fun g => (g.length : Int) * (n - (g.length : Int))).sum
def lawBad (g : List Int) : Bool := decide (g = []) || !decide (g = srt g)
def lawParted (n : Int) (ps : List (Int × Int)) (gs : List (List Int)) : Bool := !gs.any lawBad && (!(!decide (srt gs.flatten = rgI 0 n) || ps.any fun p => decide ((homeL gs p.1 : Int) = (homeL gs p.2 : Int))) && decide ((ps.length : Int) * 2 = crossS n gs))
def mxL : List Int → Int
  | [] => 0
  | [x] => x
  | x :: y :: r => max x (mxL (y :: r))
def mnL : List Int → Int
  | [] => 0
  | [x] => x
  | x :: y :: r => min x (mnL (y :: r))
theorem mxL_ok : ∀ {l : List Int}, l ≠ [] → mxL l ∈ l ∧ ∀ y ∈ l, y ≤ mxL l
  | [], h => absurd rfl h
  | [x], _ => ⟨List.mem_singleton.mpr rfl, fun y hy => by rw [List.mem_singleton.mp hy]; exact Int.le_refl _⟩
  | x :: y :: r, _ => by
    obtain ⟨h1, h2⟩ := mxL_ok (l := y :: r) (by simp)
    show max x (mxL (y :: r)) ∈ _ ∧ ∀ z ∈ x :: y :: r, z ≤ max x (mxL (y :: r))
    refine ⟨?_, fun z hz => ?_⟩
    · rcases Int.le_total x (mxL (y :: r)) with q | q
      · rw [Int.max_eq_right q]; exact List.mem_cons_of_mem _ h1
      · rw [Int.max_eq_left q]; exact List.mem_cons_self
    · rcases List.mem_cons.mp hz with e | e
      · rw [e]; exact Int.le_max_left _ _
      · exact Int.le_trans (h2 z e) (Int.le_max_right _ _)
theorem mnL_ok : ∀ {l : List Int}, l ≠ [] → mnL l ∈ l ∧ ∀ y ∈ l, mnL l ≤ y
  | [], h => absurd rfl h
  | [x], _ => ⟨List.mem_singleton.mpr rfl, fun y hy => by rw [List.mem_singleton.mp hy]; exact Int.le_refl _⟩
  | x :: y :: r, _ => by
    obtain ⟨h1, h2⟩ := mnL_ok (l := y :: r) (by simp)
    show min x (mnL (y :: r)) ∈ _ ∧ ∀ z ∈ x :: y :: r, min x (mnL (y :: r)) ≤ z
    refine ⟨?_, fun z hz => ?_⟩
    · rcases Int.le_total x (mnL (y :: r)) with q | q
      · rw [Int.min_eq_left q]; exact List.mem_cons_self
      · rw [Int.min_eq_right q]; exact List.mem_cons_of_mem _ h1
    · rcases List.mem_cons.mp hz with e | e
      · rw [e]; exact Int.min_le_left _ _
      · exact Int.le_trans (Int.min_le_right _ _) (h2 z e)
def sizes (gs : List (List Int)) : List Int := gs.map fun g => (g.length : Int)
def spread (gs : List (List Int)) : Int := mxL (sizes gs) - mnL (sizes gs)
def lawFull (n : Int) (ps : List (Int × Int)) (m : Int) (gs : List (List Int)) : Bool := !(!decide ((gs.length : Int) = min n m) || decide (1 < spread gs)) && lawParted n ps gs
def lawMost (p m : Int) : Int := p * (p - 1) / 2 - (p % m * (p / m * (p / m + 1) / 2) + (m - p % m) * (p / m * (p / m - 1) / 2))
/-- those that x isn't tied to -/
def aloof (n : Int) (ps : List (Int × Int)) (x : Int) : List Int := (rgI 0 n).filter fun y => !nearF ps x y
def addNew (gs : List (List Int)) (g : List Int) : List (List Int) := if g ∈ gs then gs else gs ++ [g]
def lawGroupsTo (n : Int) (ps : List (Int × Int)) (xs : List Int) : List (List Int) := xs.foldl (fun gs x => addNew gs (aloof n ps x)) []
def lawGroups (n : Int) (ps : List (Int × Int)) : List (List Int) := lawGroupsTo n ps (rgI 0 n)
theorem lawGroupsTo_snoc (n : Int) (ps : List (Int × Int)) (xs : List Int) (x : Int) : lawGroupsTo n ps (xs ++ [x]) = addNew (lawGroupsTo n ps xs) (aloof n ps x) := by
  unfold lawGroupsTo
  rw [List.foldl_append]
  rfl
theorem addNew_len (gs : List (List Int)) (g : List Int) : (addNew gs g).length ≤ gs.length + 1 := by
  unfold addNew
  split
  · omega
  · rw [List.length_append]; exact Nat.le_refl _
theorem lawGroupsTo_len (n : Int) (ps : List (Int × Int)) : ∀ (xs : List Int), (lawGroupsTo n ps xs).length ≤ xs.length := by
  intro xs
  induction h : xs.length generalizing xs with
  | zero =>
    have e : xs = [] := List.eq_nil_of_length_eq_zero h
    subst e
    exact Nat.le_refl _
  | succ k ih =>
    have e : xs = xs.dropLast ++ [xs.getLast (by intro z; rw [z] at h; cases h)] := (List.dropLast_concat_getLast _).symm
    rw [e, lawGroupsTo_snoc]
    have q := ih xs.dropLast (by rw [List.length_dropLast]; omega)
    have q2 := addNew_len (lawGroupsTo n ps xs.dropLast) (aloof n ps (xs.getLast (by intro z; rw [z] at h; cases h)))
    omega
/-- a cell's number -/
def lawNumber (c a s : Int) : Int := if 10 ^ 18 ≤ c then c / (1 + a % 7) else
  ((c + 977 * a) * 48271 + s) % 2147483647 * (c + 31 * a + 7) * (((c + 977 * a) * 48271 + s) % 2147483647 + c + 5) * (((c + 977 * a) * 48271 + s) % 2147483647 * (((c + 977 * a) * 48271 + s) % 2147483647) + 11) / (1009 + a)
theorem pairsB_take {f : Int → Int → Bool} : ∀ {xs : List Int} (j : Nat), pairsB f xs = true → pairsB f (xs.take j) = true
  | [], j, h => by rw [List.take_nil]; exact h
  | x :: r, 0, _ => rfl
  | x :: r, j + 1, h => by
    obtain ⟨h1, h2⟩ := Bool.and_eq_true_iff.mp (show (r.all (f x) && pairsB f r) = true from h)
    show ((r.take j).all (f x) && pairsB f (r.take j)) = true
    rw [pairsB_take j h2, Bool.and_true]
    exact List.all_eq_true.mpr fun y hy => List.all_eq_true.mp h1 y (List.mem_of_mem_take hy)
end SC

/-! SCE: dicts of ints that this def fills; more steps by data. -/
namespace SC
open PySem PySem.Spec PyProof.Rows L2 Evl
section
variable {n : Bool} {K : PySem.W.Frag} {w : World} {σ : L2.St} {H H' : Hp} {ta tb te tl tk ty : TE} {t u : TT} {x y v : V} {d e dx dy : PyData} {ds es : List PyData} {tas : TA} {hm : Addr} {kvs : List (Key × V)} {j : Nat} {k : Int}
/-- k in d, d a name -/
theorem d_inDict (hv : σ[j]? = some (some (.ref hm))) (hd : H hm = some (.dK kvs)) (hk : EvD tk σ H (.int k)) : EvD (tOp (rUIn K) tk (tVar j)) σ H (.bool (valV kvs (.inl k)).isSome) := fun H1 e1 Q q => hk H1 e1 _ fun x H2 e2 hx _ => ⟨_, hv, by
  cases hx.int_inv
  exact .inr (.inr ⟨hm, _, rfl, DGet.k (k := Sum.inl k) (e2 _ _ (e1 _ _ hd)), q _ H2 e2 (.bl _) Fr.no⟩)⟩
/-- d[k] -/
theorem d_dget (hv : σ[j]? = some (some (.ref hm))) (hd : H hm = some (.dK kvs)) (hk : EvD ty σ H (.int k)) (hl : valV kvs (.inl k) = some v) (hvd : Dt H v d) : EvD (tDGet (tVar j) ty) σ H d := fun H1 e1 Q q => ⟨_, hv, hk H1 e1 _ fun x H2 e2 hx _ => by
  cases hx.int_inv
  refine ⟨hm, v, rfl, ?_, q _ H2 e2 (hvd.ex (e1.trans e2)) Fr.no⟩
  rw [← hl]
  exact DGet.k (k := Sum.inl k) (e2 _ _ (e1 _ _ hd))⟩
/-- sorted(d) -/
theorem d_sortedDict {ks : List Int} (hv : σ[j]? = some (some (.ref hm))) (hd : H hm = some (.dK kvs)) (hk : kvs.map (·.1) = ks.map Sum.inl) (hl : ks.length < 64) : EvR true (tCB (rUSorted K w) (tCons (tVar j) tNil)) σ H (.list (iL (srt ks))) := fun H1 e1 Q q =>
  ⟨_, hv, .inr (.inl ⟨hm, kvs, ks, rfl, .inl (e1 _ _ hd), hk, hl, fun ys p hp hs hn => by
    rw [srt_of hp hs]
    exact q _ _ (Ex.new hn) (.lst upd_same (DtAll.iL_mk _)) fun _ => ⟨p, rfl, hn⟩⟩)⟩
/-- d[k] = v, d a name -/
theorem s_dput {D : Ends} {i2 i3 : Nat} {k a : Int} (hv : σ[j]? = some (some (.ref hm))) (hd : H hm = some (.dK kvs)) (hk : σ[i2]? = some (some (.int k))) (ha : σ[i3]? = some (some (.int a))) (hz : kvs.length ≤ 1000000)
    (q : D.nx σ (upd H hm (.dK (putK kvs (.inl k) (.int a))))) : sDPut (tVar j) (tVar i2) (tVar i3) D σ H := ⟨_, ha, _, hv, _, hk, hm, _, rfl, DPut.k (k := Sum.inl k) hd (Nat.lt_of_le_of_lt hz (by decide)), q⟩
/-- all but what stands at a -/
def delH (H : Hp) (a : Addr) : Hp := fun b => if b = a then none else H b
theorem delH_at {H : Hp} {a : Addr} : delH H a a = none := if_pos rfl
theorem delH_ne {H : Hp} {a b : Addr} (h : b ≠ a) : delH H a b = H b := if_neg h
theorem delH_ex {H : Hp} {a : Addr} : Ex (delH H a) H := fun b o h => by
  by_cases e : b = a
  · rw [e, delH_at] at h
    cases h
  · rwa [delH_ne e] at h
theorem ex_del {H H' : Hp} {a : Addr} (e : Ex H H') (h : H a = none) : Ex H (delH H' a) := fun b o hb => by
  rw [delH_ne (ne_of_none hb h)]
  exact e b o hb
mutual
theorem Dt.delD {H : Hp} {a : Addr} (ha : ∀ xs, H a ≠ some (.lst xs)) (hb : ∀ xs, H a ≠ some (.tup xs)) : ∀ {v : V} {d : PyData}, Dt H v d → Dt (delH H a) v d
  | _, _, .non => .non
  | _, _, .bl b => .bl b
  | _, _, .int i => .int i
  | _, _, .str x => .str x
  | _, _, .lst h k => .lst (by rw [delH_ne (fun e => ha _ (by rw [← e]; exact h))]; exact h) (DtAll.delD ha hb k)
  | _, _, .tup h k => .tup (by rw [delH_ne (fun e => hb _ (by rw [← e]; exact h))]; exact h) (DtAll.delD ha hb k)
theorem DtAll.delD {H : Hp} {a : Addr} (ha : ∀ xs, H a ≠ some (.lst xs)) (hb : ∀ xs, H a ≠ some (.tup xs)) : ∀ {vs : List V} {ds : List PyData}, DtAll H vs ds → DtAll (delH H a) vs ds
  | _, _, .nil => .nil
  | _, _, .cons h t => .cons (Dt.delD ha hb h) (DtAll.delD ha hb t)
end
/-- the dict at a name does not stand in data -/
theorem Dt.delK {H : Hp} {a : Addr} {kvs : List (Key × V)} (h : H a = some (.dK kvs)) {v : V} {d : PyData} (q : Dt H v d) : Dt (delH H a) v d := q.delD (fun xs z => by rw [h] at z; cases z) (fun xs z => by rw [h] at z; cases z)
/-- and it may change -/
theorem Dt.updK {H : Hp} {a : Addr} {kvs : List (Key × V)} {o : HO} (h : H a = some (.dK kvs)) {v : V} {d : PyData} (q : Dt H v d) : Dt (upd H a o) v d := (q.delK h).ex (Ex.mut delH_ex delH_at)
end
/-! ### isinstance by data -/
def tyD : PyData → String
  | .none => "NoneType"
  | .bool _ => "bool"
  | .int _ => "int"
  | .str _ => "str"
  | .list _ => "list"
  | .tuple _ => "tuple"
  | _ => ""
theorem Dt.ty {K : PySem.W.Frag} {H : Hp} {v : V} {d : PyData} (h : Dt H v d) : TyX K H v (.type (tyD d)) := by
  cases h with
  | non => exact .base .non
  | bl b => exact .base (.bl b)
  | int i => exact .base (.int i)
  | str x => exact .base (.str x)
  | lst h _ => exact .base (.lst h)
  | tup h _ => exact .base (.tup h)
theorem d_isi {K : PySem.W.Frag} {σ : L2.St} {H : Hp} {te : TE} {d : PyData} {T : String} {b : Bool} (h : EvD te σ H d) (hb : kitB (tyD d) T = some b) : EvD (tCB (rIsi K) (tCons te (tCons (tC (.ty T)) tNil))) σ H (.bool b) := fun H1 e1 Q q =>
  h H1 e1 _ fun v H2 e2 hv _ => ⟨v, .ty T, .type (tyD d), .type T, b, rfl, .ty T, hv.ty, kit_ty hb, q _ H2 e2 (.bl b) Fr.no⟩
/-! ### a list of lists that this def fills -/
structure Gl (H : Hp) (a : Addr) (gs : List (List Int)) : Prop where
  ex : ∃ ps : List Addr, H a = some (.lst (ps.map V.ref)) ∧ ps.length = gs.length ∧ ∀ (i : Nat) (p : Addr) (g : List Int), ps[i]? = some p → gs[i]? = some g → H p = some (.lst (g.map V.int)) ∧ p ≠ a
theorem gl_all {H : Hp} : ∀ (ps : List Addr) (gs : List (List Int)), ps.length = gs.length → (∀ (i : Nat) (p : Addr) (g : List Int), ps[i]? = some p → gs[i]? = some g → H p = some (.lst (g.map V.int))) → DtAll H (ps.map V.ref) (gL gs)
  | [], [], _, _ => .nil
  | [], _ :: _, h, _ => nomatch h
  | _ :: _, [], h, _ => nomatch h
  | p :: ps, g :: gs, h, k => .cons (.lst (k 0 p g rfl rfl) (DtAll.iL_mk g)) (gl_all ps gs (Nat.succ.inj h) fun i p' g' a b => k (i + 1) p' g' a b)
theorem Gl.dt {H : Hp} {a : Addr} {gs : List (List Int)} (G : Gl H a gs) : Dt H (.ref a) (.list (gL gs)) := by
  obtain ⟨ps, ha, hl, hp⟩ := G.ex
  exact .lst ha (gl_all ps gs hl fun i p g h1 h2 => (hp i p g h1 h2).1)
theorem Gl.len {H : Hp} {a : Addr} {gs : List (List Int)} (G : Gl H a gs) {xs : List V} (h : H a = some (.lst xs)) : xs.length = gs.length := by
  obtain ⟨ps, ha, hl, hp⟩ := G.ex
  rw [ha] at h
  cases h
  rw [List.length_map, hl]
theorem Gl.at_ {H : Hp} {a : Addr} {gs : List (List Int)} (G : Gl H a gs) : ∃ xs, H a = some (.lst xs) ∧ xs.length = gs.length := by
  obtain ⟨ps, ha, hl, hp⟩ := G.ex
  exact ⟨_, ha, by rw [List.length_map, hl]⟩
theorem Gl.exx {H H1 : Hp} {a : Addr} {gs : List (List Int)} (G : Gl H a gs) (e : Ex H H1) : Gl H1 a gs := by
  obtain ⟨ps, ha, hl, hp⟩ := G.ex
  exact ⟨⟨ps, e _ _ ha, hl, fun i p g h1 h2 => ⟨e _ _ (hp i p g h1 h2).1, (hp i p g h1 h2).2⟩⟩⟩
/-- one more list at its end -/
theorem Gl.app {H : Hp} {a p : Addr} {gs : List (List Int)} {g : List Int} {xs : List V} (G : Gl H a gs) (hx : H a = some (.lst xs)) (hp : H p = some (.lst (g.map V.int))) (ne : p ≠ a) : Gl (upd H a (.lst (xs ++ [.ref p]))) a (gs ++ [g]) := by
  obtain ⟨ps, ha, hl, hq⟩ := G.ex
  rw [ha] at hx
  cases hx
  refine ⟨⟨ps ++ [p], by rw [upd_same, List.map_append]; rfl, by rw [List.length_append, List.length_append, hl]; rfl, fun i q g' h1 h2 => ?_⟩⟩
  by_cases hi : i < ps.length
  · rw [List.getElem?_append_left hi] at h1
    rw [List.getElem?_append_left (by omega)] at h2
    obtain ⟨b1, b2⟩ := hq i q g' h1 h2
    exact ⟨by rw [upd_ne b2]; exact b1, b2⟩
  · rw [List.getElem?_append_right (by omega)] at h1
    rw [List.getElem?_append_right (by omega)] at h2
    cases hz : i - ps.length with
    | zero =>
      rw [hz] at h1
      have e1 : p = q := Option.some.inj h1
      rw [← hl, hz] at h2
      have e2 : g = g' := Option.some.inj h2
      rw [← e1, ← e2]
      exact ⟨by rw [upd_ne ne]; exact hp, ne⟩
    | succ m =>
      rw [hz] at h1
      cases h1
/-- g in gs, lists of ints -/
theorem eqv_gD (g h : List Int) : PyData.eqv (gD g) (gD h) = decide (g = h) := eqv_iL g h
theorem any_eqG (l : List (List Int)) (k : List Int) : ((gL l).any fun z => PyData.eqv z (gD k)) = decide (k ∈ l) := by
  unfold gL
  rw [List.any_map, show ((fun z => PyData.eqv z (gD k)) ∘ gD) = fun i => decide (i = k) from funext fun i => eqv_gD i k]
  rw [Bool.eq_iff_iff, List.any_eq_true, decide_eq_true_eq]
  constructor
  · rintro ⟨z, hz, e⟩
    rw [← of_decide_eq_true e]
    exact hz
  · intro hz
    exact ⟨k, hz, decide_eq_true rfl⟩
theorem lay_gL : ∀ (gs : List (List Int)), PyData.canLayAll0 (gL gs) = true
  | [] => by simp [gL, PyData.canLayAll0]
  | g :: gs => by
    have h := lay_gL gs
    have h2 := lay_iL g
    show PyData.canLayAll0 (.list (iL g) :: gL gs) = true
    simp only [PyData.canLayAll0, PyData.canLay0, h, h2, Bool.and_self]
theorem dep_gL : ∀ (gs : List (List Int)), PyData.depthAll (gL gs) ≤ 3
  | [] => by simp [gL, PyData.depthAll]
  | g :: gs => by
    have h := dep_gL gs
    have h2 := dep_iL g
    show PyData.depthAll (.list (iL g) :: gL gs) ≤ 3
    simp only [PyData.depthAll, PyData.depth]
    omega
theorem sh_gL (gs : List (List Int)) : SeqAt.shaped (.list (gL gs)) = true := by
  have h1 := dep_gL gs
  have h2 : PyData.depth (.list (gL gs)) ≤ 64 := by
    simp only [PyData.depth]
    omega
  show (PyData.canLay0 (.list (gL gs)) && decide (PyData.depth (.list (gL gs)) ≤ 64)) = true
  rw [Bool.and_eq_true]
  exact ⟨by simp only [PyData.canLay0]; exact lay_gL gs, decide_eq_true h2⟩
theorem rd_notInG {K : PySem.W.Frag} {H : Hp} {k : List Int} {l : List (List Int)} : RD false (rUNotIn K) (gD k) (.list (gL l)) H (.bool (!decide (k ∈ l))) := by
  rw [← any_eqG]
  exact rd_uNotInL (sh_iL k) (sh_gL l)
theorem eqvAll_gL : ∀ (gs hs : List (List Int)), PyData.eqvAll (gL gs) (gL hs) = decide (gs = hs)
  | [], [] => rfl
  | [], _ :: _ => rfl
  | _ :: _, [] => rfl
  | n :: ns, m :: ms => by
    show PyData.eqvAll (gD n :: gL ns) (gD m :: gL ms) = _
    have h := eqvAll_gL ns ms
    simp only [PyData.eqvAll, eqv_gD, h]
    by_cases e : n = m
    · by_cases e2 : ns = ms
      · subst e e2; simp
      · simp [e2]
    · simp [e]
theorem rd_neG {K : PySem.W.Frag} {H : Hp} {i j : List (List Int)} : RD false (rNeD K) (.list (gL i)) (.list (gL j)) H (.bool (!decide (i = j))) := by
  have e : PyData.eqv (.list (gL i)) (.list (gL j)) = decide (i = j) := by
    simp only [PyData.eqv]
    exact eqvAll_gL i j
  rw [← e]
  exact rd_neD (sh_gL _) (sh_gL _)
theorem rd_eqG {K : PySem.W.Frag} {H : Hp} {i j : List (List Int)} : RD false (rEqD K) (.list (gL i)) (.list (gL j)) H (.bool (decide (i = j))) := by
  have e : PyData.eqv (.list (gL i)) (.list (gL j)) = decide (i = j) := by
    simp only [PyData.eqv]
    exact eqvAll_gL i j
  rw [← e]
  exact rd_eqD (sh_gL _) (sh_gL _)
/-! ### what crowds are asked with -/
def RCrowd (ds : List PyData) (d : PyData) : Prop := ∃ (n : Int) (ps : List (Int × Int)) (xs : List Int), ds = [.int n, .list (pL ps), .list (iL xs)] ∧ 0 ≤ n ∧ n ≤ 100000 ∧ InWeb n ps ∧ ps.length ≤ 100000 ∧ xs.length < 64 ∧ d = .bool (isCrowd n ps xs)
theorem spNear_use {n : Int} {ps : List (Int × Int)} (h0 : 0 ≤ n) (h1 : n ≤ 100000) (hw : InWeb n ps) (hp : ps.length ≤ 100000) {σ : L2.St} {H : Hp} {tas : TA} {E : XK} (h : EvAs tas σ H [.int n, .list (pL ps)]) {i : Nat} {D : Ends} {tz : TS}
    (k : ∀ v H1, Ex H H1 → Nr H1 v n.toNat (nearF ps) → tz D (σ.set i (some v)) H1) : tSeq (tAsg (tCall spNear [] E tas) (gName i)) tz D σ H := h H (Ex.refl H) _ fun vs H1 e1 hv => by
  obtain ⟨v1, v2, rfl, a1, a2⟩ := hv.two
  cases a1.int_inv
  exact ⟨n, ps, v2, rfl, a2, h0, h1, hw, hp, fun v' H' e' hn => k v' H' (e1.trans e') hn⟩
end SC

/-! SCO: instances, their fields, lists of new lists. -/
namespace SC
open PySem PySem.Spec PyProof.Rows L2 Evl
/-- at p a new list of new lists, ps, of the ints gs; new: H0 knows none of them -/
structure Gn (H0 H : Hp) (p : Addr) (ps : List Addr) (gs : List (List Int)) : Prop where
  at_ : H p = some (.lst (ps.map V.ref))
  nd : (p :: ps).Nodup
  new : ∀ q ∈ p :: ps, H0 q = none
  len : ps.length = gs.length
  each : ∀ (i : Nat) (q : Addr) (g : List Int), ps[i]? = some q → gs[i]? = some g → H q = some (.lst (g.map V.int))
theorem Gn.ex {H0 H H' : Hp} {p : Addr} {ps : List Addr} {gs : List (List Int)} (G : Gn H0 H p ps gs) (e : Ex H H') : Gn H0 H' p ps gs := ⟨e _ _ G.at_, G.nd, G.new, G.len, fun i q g a b => e _ _ (G.each i q g a b)⟩
theorem Gn.dt {H0 H : Hp} {p : Addr} {ps : List Addr} {gs : List (List Int)} (G : Gn H0 H p ps gs) : Dt H (.ref p) (.list (gL gs)) := .lst G.at_ (gl_all ps gs G.len G.each)
theorem Gn.back {H0 H1 H : Hp} {p : Addr} {ps : List Addr} {gs : List (List Int)} (G : Gn H1 H p ps gs) (e : Ex H0 H1) : Gn H0 H p ps gs := ⟨G.at_, G.nd, fun q hq => fresh_back e (G.new q hq), G.len, G.each⟩
section
variable {K : PySem.W.Frag} {σ : L2.St} {H H' : Hp} {ta tb te tl : TE} {v : V} {α : Type}
theorem lc_new {wi : TI} {g : TG} {tt : TT} {vs : List Nat} {l : List α} {emb : α → PyData} (f : α → List Int) (h : DW wi σ H (l.map emb)) (hz : l.length ≤ 1000000)
    (ht : ∀ a ∈ l, ∀ x H1, Ex H H1 → Dt H1 x (emb a) → Turn1 true g tt te vs σ H1 x true (.list (iL (f a)))) {H0 : Hp} (e0 : Ex H H0) {Q : VK} (q : ∀ p ps H2, Ex H0 H2 → Gn H0 H2 p ps (l.map f) → Q (.ref p) H2) : tLc wi g tt te vs σ H0 Q := h H0 e0 _ fun J H1 e1 w Dl hD => by
  refine lc_it w (fun i H' => Ex H1 H' ∧ ∃ ps, Gn H1 H' Dl ps ((l.take i).map f)) ⟨Ex.new hD, [], upd_same, List.pairwise_singleton _ _, fun q hq => by rw [List.mem_singleton.mp hq]; exact hD, rfl, fun _ _ _ z => nomatch z⟩ (fun i H' _ p => p.1) ?_ ?_
  · rintro i x H2 H3 hi ⟨e2, ps, G⟩ ⟨e3, d, hd, hx⟩
    rw [List.length_map] at hi
    rw [List.getElem?_map] at hd
    have hat : l[i]? = some l[i] := List.getElem?_eq_getElem hi
    rw [hat] at hd
    cases hd
    obtain ⟨σ2, w2, hg, hT, hE⟩ := (ht l[i] (List.getElem_mem hi) x H3 (((e0.trans e1).trans e2).trans e3) hx).ex
    refine hg _ ⟨w2, hT H3 (Ex.refl _) _ fun H4 e4 => ?_⟩
    show te σ2 H4 _
    have G4 := (G.ex e3).ex e4
    refine hE rfl H4 e4 _ fun y H5 e5 hy fr => ⟨_, (G4.ex e5).at_, Nat.lt_of_le_of_lt (show (ps.map V.ref).length ≤ 1000000 by rw [List.length_map, G.len, List.length_map, List.length_take]; omega) (by decide), ?_⟩
    obtain ⟨q0, rfl, hqn⟩ := fr rfl
    obtain ⟨q1, ys, eq, hq1, hys⟩ := hy.lst_inv
    cases eq
    cases hys.iL_inv
    have e15 : Ex H1 H5 := ((e2.trans e3).trans e4).trans e5
    have nD : Dl ≠ q0 := ne_of_none G4.at_ hqn
    have nps : ∀ c ∈ ps, c ≠ q0 := fun c hc => by
      obtain ⟨j, hj⟩ := List.getElem?_of_mem hc
      have hjl := (List.getElem?_eq_some_iff.mp hj).1
      have hg2 : ((l.take i).map f)[j]? = some (((l.take i).map f)[j]'(by rw [← G.len]; exact hjl)) := List.getElem?_eq_getElem _
      exact ne_of_none (G4.each j c _ hj hg2) hqn
    have nD2 : ∀ c ∈ ps, c ≠ Dl := fun c hc z => (List.nodup_cons.mp G.nd).1 (by rw [← z]; exact hc)
    refine ⟨Ex.mut e15 hD, ps ++ [q0], by rw [upd_same, List.map_append]; rfl, ?_, ?_, ?_, ?_⟩
    · obtain ⟨n1, n2⟩ := List.nodup_cons.mp G.nd
      refine List.nodup_cons.mpr ⟨fun hm => ?_, List.nodup_append.mpr ⟨n2, List.pairwise_singleton _ _, fun c hc b hb => by rw [List.mem_singleton.mp hb]; exact nps c hc⟩⟩
      rcases List.mem_append.mp hm with hm | hm
      · exact n1 hm
      · exact nD (List.mem_singleton.mp hm)
    · intro c hc
      rcases List.mem_cons.mp hc with hc | hc
      · rw [hc]; exact hD
      · rcases List.mem_append.mp hc with hc | hc
        · exact G.new c (List.mem_cons_of_mem _ hc)
        · rw [List.mem_singleton.mp hc]
          exact fresh_back ((e2.trans e3).trans e4) hqn
    · rw [List.length_append, G.len, take_at hat, List.map_append, List.length_append]
      rfl
    · intro j c g' h1 h2
      rw [take_at hat, List.map_append] at h2
      by_cases hj : j < ps.length
      · rw [List.getElem?_append_left hj] at h1
        rw [List.getElem?_append_left (by rw [← G.len]; exact hj)] at h2
        have hc : c ∈ ps := List.mem_of_getElem? h1
        rw [upd_ne (nD2 c hc)]
        exact e5 _ _ (G4.each j c g' h1 h2)
      · rw [List.getElem?_append_right (by omega)] at h1
        rw [List.getElem?_append_right (by rw [← G.len]; omega), ← G.len] at h2
        cases hz : j - ps.length with
        | zero =>
          rw [hz] at h1 h2
          have e1 : q0 = c := Option.some.inj h1
          have e2 : f l[i] = g' := Option.some.inj h2
          rw [← e1, ← e2, upd_ne nD.symm]
          exact hq1
        | succ m =>
          rw [hz] at h1
          cases h1
  · rintro H' ⟨e2, ps, G⟩
    rw [List.length_map, List.take_length] at G
    exact q Dl ps H' (e1.trans e2) (G.back e1)
theorem q_lcNew {wi : TI} {g : TG} {tt : TT} {vs : List Nat} {l : List α} {emb : α → PyData} {i : Nat} {D : Ends} {tz : TS} (f : α → List Int) (h : DW wi σ H (l.map emb)) (hz : l.length ≤ 1000000)
    (ht : ∀ a ∈ l, ∀ x H1, Ex H H1 → Dt H1 x (emb a) → Turn1 true g tt te vs σ H1 x true (.list (iL (f a)))) (q : ∀ p ps H2, Ex H H2 → Gn H H2 p ps (l.map f) → tz D (σ.set i (some (.ref p))) H2) : tSeq (tAsg (tLc wi g tt te vs) (gName i)) tz D σ H := lc_new (Q := fun v H2 => gName i v σ H2 (tz D)) f h hz ht (Ex.refl H) q
/-! fields -/
theorem d_fld {i : Nat} {a C dx : Addr} {fs : List (Str × V)} {f : Str} {d : PyData} (h : σ[i]? = some (some (.ref a))) (ha : H a = some (.ins C dx fs)) (c : Cls K C) (n : NoAttr K C f) (hl : fs.lookup f = some v) (hd : Dt H v d) : EvD (tFld K (tVar i) f) σ H d := fun H1 e1 Q q =>
  ⟨_, h, a, C, dx, fs, v, rfl, e1 _ _ ha, c, n, hl, q v H1 (Ex.refl H1) (hd.ex e1) Fr.no⟩
/-- a new instance: what stands behind it -/
theorem made_ex {H : Hp} {x dx C : Addr} {fs : List (Str × V)} (h1 : H x = none) (h2 : H dx = none) : Ex H (upd (upd H dx (.own x)) x (.ins C dx fs)) := fun b o e => by
  rw [upd_ne (ne_of_none e h1), upd_ne (ne_of_none e h2)]
  exact e
/-- all but a -/
def ExBut (a : Addr) (H H' : Hp) : Prop := ∀ b o, H b = some o → b ≠ a → H' b = some o
theorem ExBut.made {H H2 : Hp} {x dx C : Addr} (h1 : H x = none) (h2 : H dx = none) (e : ExBut x (upd (upd H dx (.own x)) x (.ins C dx [])) H2) : Ex H H2 := fun b o hb => e b o (made_ex h1 h2 b o hb) (ne_of_none hb h1)
end
/-! ### methods and __init__s of the text -/
def MDef (K : PySem.W.Frag) (C : Addr) (m qual : Str) (st : Stmt) : Prop := ∃ f fd, FunD K m qual (defArgs st) (defBody st) (defScope st) [] [] f fd ∧ Meth K C m f
def IDef (K : PySem.W.Frag) (C : Addr) (qual : Str) (st : Stmt) : Prop := ∃ f fd, FunD K "__init__" qual (defArgs st) (defBody st) (defScope st) [] [] f fd ∧ Mk K C f
/-- a class of the text: its name, its plain ways, the fields that it lacks -/
structure KCls (K : PySem.W.Frag) (mg : Str → Option Value) (x : Str) (C : Addr) (fields : List Str) : Prop where
  cl : Cls K C
  g : mg x = some (.ref C)
  no : ∀ f ∈ fields, NoAttr K C f
section
variable {P : Program} {w : World} {K : PySem.W.Frag} {mg : Str → Option Value} {base : Heap} {N ps : List Str} {k : Nat} {sp : Sp} {x m qual : Str} {st : Stmt} {C : Addr}
theorem MCal.of (F : MDef K C m qual st) (S : FnScope N ps (defScope st)) (len : ∀ vs H Q E, sp vs H Q E → vs.length = ps.length)
    (hb : ∀ (kV doc pm : Value) (an : Option Addr) (cdv ct : Value) (us : List Value), us.length = ps.length → bindArgs (PySem.W.fnOf m qual (defArgs st) (defBody st) (defScope st) .none kV doc pm an cdv ct) ⟨us, []⟩ = pure (ps.zip us))
    (body : ∀ (f : Addr) (cdv : Value) (A : Around) (outer : List Env) (s : Shared) (H : Hp) (vs : List V) (Q : VK) (E : XK), Room k (A.deeper (envOfC qual (defScope st) s.heap.objs.size f cdv)) → sp vs H Q E →
      ∃ t, PSs (cx0 CX0 P w K mg base N qual st f cdv A outer s H E).nox (defBody st) t ∧ t { nx := fun _ H' => Q .non H', rt := Q } (start N vs) H) : MCal P w K mg base CX0 (k + 1) C m ps sp := by
  obtain ⟨f, fd, F, hm⟩ := F
  exact ⟨f, fd, F.ok S len (fun cdv A outer s H vs Q E hr h => by
    obtain ⟨t, h1, h2⟩ := body f cdv A outer s H vs Q E hr h
    exact ⟨t, h1.nox, h2⟩), hm, F.bindsN hb⟩
theorem ICal.of (F : IDef K C qual st) (hx : mg x = some (.ref C)) (S : FnScope N ps (defScope st)) (len : ∀ vs H Q E, sp vs H Q E → vs.length = ps.length)
    (hb : ∀ (kV doc pm : Value) (an : Option Addr) (cdv ct : Value) (us : List Value), us.length = ps.length → bindArgs (PySem.W.fnOf "__init__" qual (defArgs st) (defBody st) (defScope st) .none kV doc pm an cdv ct) ⟨us, []⟩ = pure (ps.zip us))
    (body : ∀ (f : Addr) (cdv : Value) (A : Around) (outer : List Env) (s : Shared) (H : Hp) (vs : List V) (Q : VK) (E : XK), Room k (A.deeper (envOfC qual (defScope st) s.heap.objs.size f cdv)) → sp vs H Q E →
      ∃ t, PSs (cx0 CX0 P w K mg base N qual st f cdv A outer s H E).nox (defBody st) t ∧ t { nx := fun _ H' => Q .non H', rt := Q } (start N vs) H) : ICal P w K mg base CX0 (k + 1) x C ps sp := by
  obtain ⟨f, fd, F, hm⟩ := F
  exact ⟨f, fd, F.ok S len (fun cdv A outer s H vs Q E hr h => by
    obtain ⟨t, h1, h2⟩ := body f cdv A outer s H vs Q E hr h
    exact ⟨t, h1.nox, h2⟩), hx, hm, F.bindsN hb⟩
end
/-! ### the answers -/
/-- Crowd(xs) -/
def spCrowdI (C : Addr) : Sp := fun vs H Q _ => ∃ (x dx : Addr) (v : V) (xs : List Int), vs = [.ref x, v] ∧ H x = some (.ins C dx []) ∧ Dt H v (.list (iL xs)) ∧ ∀ p H', H p = none → ExBut x H H' → H' x = some (.ins C dx [("some", .ref p)]) → H' p = some (.lst (xs.map V.int)) → Q .non H'
def spCrowdS (C : Addr) : Sp := fun vs H Q _ => ∃ (x dx : Addr) (v vt : V) (n m : Int) (ps : List (Int × Int)) (xs : List Int), vs = [.ref x, .int n, vt, .int m] ∧ H x = some (.ins C dx [("some", v)]) ∧ Dt H v (.list (iL xs)) ∧ Dt H vt (.list (pL ps)) ∧
  0 ≤ n ∧ n ≤ 100000 ∧ InWeb n ps ∧ ps.length ≤ 100000 ∧ xs.length < 64 ∧ Kd false (.bool (decide ((xs.length : Int) = m + 1) && isCrowd n ps xs)) H Q
/-- Full(gs), Parted(gs) -/
def spGroupsI (C : Addr) : Sp := fun vs H Q _ => ∃ (x dx : Addr) (v : V) (gs : List (List Int)), vs = [.ref x, v] ∧ H x = some (.ins C dx []) ∧ Dt H v (.list (gL gs)) ∧ gs.length ≤ 1000 ∧ ∀ p ps H', ExBut x H H' → H' x = some (.ins C dx [("groups", .ref p)]) → Gn H H' p ps gs → Q .non H'
def fullShows (n : Int) (ps : List (Int × Int)) (m : Int) (gs : List (List Int)) : Bool := !(!decide ((gs.length : Int) = min n m) || !areGroups n ps gs) && decide (spread gs < 2)
def GroupsOk (n : Int) (ps : List (Int × Int)) (gs : List (List Int)) : Prop := InWeb n ps ∧ ps.length ≤ 100000 ∧ gs.length ≤ 1000 ∧ (∀ g ∈ gs, g.length ≤ 63) ∧ (grpGo gs [] = true → gs.flatten.length < 64)
def spFullS (C : Addr) : Sp := fun vs H Q _ => ∃ (x dx : Addr) (v vt : V) (n m : Int) (ps : List (Int × Int)) (gs : List (List Int)), vs = [.ref x, .int n, vt, .int m] ∧ H x = some (.ins C dx [("groups", v)]) ∧ Dt H v (.list (gL gs)) ∧ Dt H vt (.list (pL ps)) ∧
  1 ≤ n ∧ n ≤ 100000 ∧ 1 ≤ m ∧ GroupsOk n ps gs ∧ Kd false (.bool (fullShows n ps m gs)) H Q
def spPartedS (C : Addr) : Sp := fun vs H Q _ => ∃ (x dx : Addr) (v vt : V) (n : Int) (ps : List (Int × Int)) (gs : List (List Int)), vs = [.ref x, .int n, vt] ∧ H x = some (.ins C dx [("groups", v)]) ∧ Dt H v (.list (gL gs)) ∧ Dt H vt (.list (pL ps)) ∧
  0 ≤ n ∧ n ≤ 100000 ∧ GroupsOk n ps gs ∧ Kd false (.bool (areGroups n ps gs)) H Q
/-- Spare(k) -/
def spSpareI (C : Addr) : Sp := fun vs H Q _ => ∃ (x dx : Addr) (k : Int), vs = [.ref x, .int k] ∧ H x = some (.ins C dx []) ∧ ∀ H', ExBut x H H' → H' x = some (.ins C dx [("ties", .int k)]) → Q .non H'
def mostT (p m : Int) : Int := p * (p - 1) / 2 - (m * (p / m * (p / m - 1) / 2) + p % m * (p / m))
def RMost (ds : List PyData) (d : PyData) : Prop := ∃ p m : Int, ds = [.int p, .int m] ∧ Sz 400 p ∧ Sz 400 m ∧ 1 ≤ m ∧ d = .int (mostT p m)
def spSpareS (C : Addr) : Sp := fun vs H Q _ => ∃ (x dx : Addr) (vt : V) (n m k : Int) (ps : List (Int × Int)), vs = [.ref x, .int n, vt, .int m] ∧ H x = some (.ins C dx [("ties", .int k)]) ∧ Dt H vt (.list (pL ps)) ∧
  Sz 400 n ∧ Sz 400 m ∧ 1 ≤ m ∧ Kd false (.bool (decide (0 < k) && decide (k = mostT n m - (ps.length : Int)))) H Q
/-- Three(a, b, c) -/
def spThreeI (C : Addr) : Sp := fun vs H Q _ => ∃ (x dx : Addr) (a b c : Int), vs = [.ref x, .int a, .int b, .int c] ∧ H x = some (.ins C dx []) ∧ ∀ H', ExBut x H H' → H' x = some (.ins C dx [("one", .int a), ("other", .int b), ("third", .int c)]) → Q .non H'
def isThree (n : Int) (ps : List (Int × Int)) (a b c : Int) : Bool := !(!decide (((sset [a, b, c]).length : Int) = 3) || !inRg n [a, b, c]) && (nearF ps a b && (!nearF ps a c && !nearF ps b c))
def spThreeS (C : Addr) : Sp := fun vs H Q _ => ∃ (x dx : Addr) (vt : V) (n a b c : Int) (ps : List (Int × Int)), vs = [.ref x, .int n, vt] ∧ H x = some (.ins C dx [("one", .int a), ("other", .int b), ("third", .int c)]) ∧ Dt H vt (.list (pL ps)) ∧
  0 ≤ n ∧ n ≤ 100000 ∧ InWeb n ps ∧ ps.length ≤ 100000 ∧ Kd false (.bool (isThree n ps a b c)) H Q
def RGroups (ds : List PyData) (d : PyData) : Prop := ∃ (n : Int) (ps : List (Int × Int)) (gs : List (List Int)), ds = [.int n, .list (pL ps), .list (gL gs)] ∧ 0 ≤ n ∧ n ≤ 100000 ∧ GroupsOk n ps gs ∧ d = .bool (areGroups n ps gs)
end SC

/-! SCQ: webs in full, the script, lists that grow by flat items. -/
namespace SC
open PySem PySem.Spec PyProof.Rows L2 Evl
/-- a web's ties -/
structure WebOk (n : Int) (ps : List (Int × Int)) : Prop where
  tie : ∀ p ∈ ps, 0 ≤ p.1 ∧ p.1 < p.2 ∧ p.2 < n
  nd : ps.Nodup
theorem WebOk.inWeb {n : Int} {ps : List (Int × Int)} (h : WebOk n ps) : InWeb n ps := fun p hp => by
  have := h.tie p hp
  omega
def allPairs (n : Nat) : List (Int × Int) := (List.range n).flatMap fun (i : Nat) => (List.range n).map fun (j : Nat) => (((i : Nat) : Int), ((j : Nat) : Int))
theorem allPairs_len (n : Nat) : (allPairs n).length = n * n := by
  unfold allPairs
  rw [List.length_flatMap]
  have e : ∀ (l : List Nat), (l.map fun _ => n).sum = l.length * n := fun l => by
    induction l with
    | nil => simp
    | cons a r ih =>
      rw [List.map_cons, List.sum_cons, ih, List.length_cons, Nat.succ_mul]
      omega
  have q := e (List.range n)
  rw [List.length_range] at q
  simpa using q
theorem WebOk.len {n : Int} {ps : List (Int × Int)} (h : WebOk n ps) : ps.length ≤ n.toNat * n.toNat := by
  rw [← allPairs_len]
  refine List.Nodup.length_le_of_subset h.nd fun p hp => ?_
  obtain ⟨h1, h2, h3⟩ := h.tie p hp
  exact List.mem_flatMap.mpr ⟨p.1.toNat, List.mem_range.mpr (by omega), List.mem_map.mpr ⟨p.2.toNat, List.mem_range.mpr (by omega), by
    obtain ⟨a, b⟩ := p
    have e1 : ((a.toNat : Nat) : Int) = a := by omega
    have e2 : ((b.toNat : Nat) : Int) = b := by simp only at h1 h2; omega
    simp only [e1, e2]⟩⟩
theorem WebOk.len60 {n : Int} {ps : List (Int × Int)} (h : WebOk n ps) (hn : n ≤ 60) : ps.length ≤ 3600 := by
  have q := h.len
  have e : n.toNat ≤ 60 := by omega
  exact Nat.le_trans q (Nat.mul_le_mul e e)
theorem WebOk.nil (n : Int) : WebOk n [] := ⟨(fun _ h => nomatch h), List.nodup_nil⟩
theorem WebOk.snoc {n : Int} {ps : List (Int × Int)} {p : Int × Int} (h : WebOk n ps) (hp : 0 ≤ p.1 ∧ p.1 < p.2 ∧ p.2 < n) (hn : p ∉ ps) : WebOk n (ps ++ [p]) := ⟨(fun q hq => by
  rcases List.mem_append.mp hq with hq | hq
  · exact h.tie q hq
  · rw [List.mem_singleton.mp hq]; exact hp), List.nodup_append.mpr ⟨h.nd, List.pairwise_singleton _ _, fun a ha b hb => by rw [List.mem_singleton.mp hb]; exact fun e => hn (by rw [← e]; exact ha)⟩⟩
theorem WebOk.filter {n : Int} {ps : List (Int × Int)} (h : WebOk n ps) (f : Int × Int → Bool) : WebOk n (ps.filter f) := ⟨fun q hq => h.tie q (List.mem_filter.mp hq).1, h.nd.sublist List.filter_sublist⟩
theorem WebOk.reverse {n : Int} {ps : List (Int × Int)} (h : WebOk n ps) : WebOk n ps.reverse := ⟨fun q hq => h.tie q (List.mem_reverse.mp hq), (List.pairwise_reverse.mpr (h.nd.imp fun q => q.symm))⟩
theorem WebOk.sub {n : Int} {ps qs : List (Int × Int)} (h : WebOk n ps) (s : qs.Sublist ps) : WebOk n qs := ⟨fun q hq => h.tie q (s.subset hq), h.nd.sublist s⟩
section
variable {K : PySem.W.Frag} {w : World} {σ : L2.St} {H H' : Hp} {ta tb te tl : TE} {v : V} {d : PyData} {ds : List PyData} {a : Addr} {ns : List Int}
/-! the script -/
theorem sc_dp (hS : SqL K H a (ns.map V.int)) : Dp K H (.ref a) (.list (iL ns)) := .lst hS (DtAll.dp (DtAll.iL_mk ns))
/-- script != [] -/
theorem t_script {i : Nat} (hv : σ[i]? = some (some (.ref a))) (hS : SqL K H a (ns.map V.int)) : EvT (tTest (tOp (rNeD K) (tVar i) (tLst tNil))) σ H (!decide (ns = [])) := fun H1 e1 Q q =>
  ⟨_, hv, Nat.zero_le _, fun p hp => ⟨_, _, sc_dp (ex_l (e1.trans (Ex.new hp)) hS), .lst (sq_of upd_same) .nil, sh_iL ns, sh_iL [], _, rfl, by
    rw [show PyData.eqv (.list (iL ns)) (.list []) = decide (ns = []) from eqv_iL ns []]
    exact q _ (Ex.new hp)⟩⟩
/-- script[:k] -/
theorem d_scriptTo {i : Nat} {k : Nat} {th : TO} (hv : σ[i]? = some (some (.ref a))) (hS : SqL K H a (ns.map V.int)) (hk : EvPart th σ H (some (k : Int))) : EvR true (tSl (rSlL K) (tVar i) tNoPart th) σ H (.list (iL (ns.take k))) := fun H1 e1 Q q =>
  ⟨_, hv, hk H1 e1 _ fun H2 e2 => ⟨a, _, rfl, ex_l (e1.trans e2) hS, fun p hp => q _ _ (e2.trans (Ex.new hp)) (.lst upd_same (by
    have e : cutV (ns.map V.int) none (some (k : Int)) = (ns.take k).map V.int := by
      unfold cutV
      rw [HT.sIx_nat, HT.sIx_none, List.length_map, List.drop_zero, Nat.sub_zero, ← List.map_take]
      by_cases h : k ≤ ns.length
      · rw [Nat.min_eq_left h]
      · rw [Nat.min_eq_right (by omega), List.take_length, List.take_of_length_le (by omega)]
    rw [e]
    exact DtAll.iL_mk _)) fun _ => ⟨p, rfl, fresh_back e2 hp⟩⟩⟩
/-- reversed -/
theorem d_rev (h : EvD te σ H (.list ds)) : EvR true (tRevL K te) σ H (.list ds.reverse) := fun H1 e1 Q q => h H1 e1 _ fun v H2 e2 hv _ => by
  obtain ⟨a, xs, rfl, ha, hx⟩ := hv.lst_inv
  exact ⟨a, xs, rfl, sq_of ha, fun p hp => q _ _ (e2.trans (Ex.new hp)) (.lst upd_same (hx.reverse.ex (Ex.new hp))) fun _ => ⟨p, rfl, fresh_back e2 hp⟩⟩
/-! four items, one of them -/
def pick4 {α : Type} (r : Int) (a b c d : α) : α := if r = 0 then a else if r = 1 then b else if r = 2 then c else d
theorem at4 {α : Type} {r : Int} (h0 : 0 ≤ r) (h1 : r < 4) (f : α → PyData) (a b c d : α) : atI [f a, f b, f c, f d] r = some (f (pick4 r a b c d)) := by
  have : r = 0 ∨ r = 1 ∨ r = 2 ∨ r = 3 := by omega
  rcases this with e | e | e | e <;> subst e <;> rfl
def pick3 {α : Type} (r : Int) (a b c : α) : α := if r = 0 then a else if r = 1 then b else c
theorem at3 {α : Type} {r : Int} (h0 : 0 ≤ r) (h1 : r < 3) (f : α → PyData) (a b c : α) : atI [f a, f b, f c] r = some (f (pick3 r a b c)) := by
  have : r = 0 ∨ r = 1 ∨ r = 2 := by omega
  rcases this with e | e | e <;> subst e <;> rfl
/-- an item of a list of ints -/
theorem at_iL {xs : List Int} {i : Int} (h0 : 0 ≤ i) (h1 : i < xs.length) : atI (iL xs) i = some (.int (xs.getD i.toNat 0)) := by
  have e : i = ((i.toNat : Nat) : Int) := by omega
  refine at_int e ?_
  unfold iL
  rw [List.getElem?_map, List.getElem?_eq_getElem (show i.toNat < xs.length by omega), List.getD_eq_getElem?_getD, List.getElem?_eq_getElem (show i.toNat < xs.length by omega)]
  rfl
theorem getD_mem {xs : List Int} {i : Nat} (h : i < xs.length) : xs.getD i 0 ∈ xs := by
  rw [List.getD_eq_getElem?_getD, List.getElem?_eq_getElem h]
  exact List.getElem_mem h
/-! a list that grows by flat items -/
theorem Dt.appF {l : Addr} {xs : List V} (hl : H l = some (.lst xs)) (h : Dt H (.ref l) (.list ds)) (hv : Dt H v d) (f1 : flatAll ds = true) (f2 : flatD d = true) : Dt (upd H l (.lst (xs ++ [v]))) (.ref l) (.list (ds ++ [d])) := by
  obtain ⟨b, ys, e, hb, hy⟩ := h.lst_inv
  cases e
  rw [hl] at hb
  cases hb
  exact .lst upd_same ((hy.append (.cons hv .nil)).updF hl (by rw [flatAll_append, f1]; show (true && (flatD d && true)) = true; rw [f2]; rfl))
theorem flat_pL (ps : List (Int × Int)) : flatAll (pL ps) = true := flatAll_mem fun z hz => by
  obtain ⟨p, _, rfl⟩ := List.mem_map.mp hz
  rfl
theorem flat_iL (ps : List Int) : flatAll (iL ps) = true := flatAll_mem fun z hz => by
  obtain ⟨p, _, rfl⟩ := List.mem_map.mp hz
  rfl
variable {t : TT} {D : Ends} {tz : TS}
theorem q_ifLetI {b : Bool} {i : Nat} {k : Int} (h : EvT t σ H b) (h1 : b = true → EvD te σ H (.int k)) (h2 : b = false → σ.set i (some (.int k)) = σ) (q : ∀ H1, Ex H H1 → tz D (σ.set i (some (.int k))) H1) : tSeq (tIfS t (tAsg te (gName i)) tNext) tz D σ H :=
  q_when h (fun hb H1 e1 => s_letI ((h1 hb).mono e1) fun H2 e2 => q H2 (e1.trans e2)) (fun hb H1 e1 => by
    have g := q H1 e1
    rw [h2 hb] at g
    exact g)
end
def spLawWeb (K : PySem.W.Frag) : Sp := fun vs H Q _ => ∃ (a : Addr) (ns : List Int), vs = [.ref a] ∧ SqL K H a (ns.map V.int) ∧ (∀ z ∈ ns, Sz 1048577 z) ∧ ∀ v H' n ps, Ex H H' → Dt H' v (.tuple [.int n, .list (pL ps)]) → 1 ≤ n → n ≤ 60 → WebOk n ps → Q v H'
def RLawMost (ds : List PyData) (d : PyData) : Prop := ∃ p m : Int, ds = [.int p, .int m] ∧ Sz 400 p ∧ Sz 400 m ∧ 1 ≤ m ∧ d = .int (lawMost p m)
def RNumber (ds : List PyData) (d : PyData) : Prop := ∃ c a s : Int, ds = [.int c, .int a, .int s] ∧ Sz 2000000 c ∧ 0 ≤ a ∧ a ≤ 100000 ∧ d = .int (lawNumber c a s)
def RParted (ds : List PyData) (d : PyData) : Prop := ∃ (n : Int) (ps : List (Int × Int)) (gs : List (List Int)), ds = [.int n, .list (pL ps), .list (gL gs)] ∧ 0 ≤ n ∧ n ≤ 100000 ∧ InWeb n ps ∧ ps.length ≤ 100000 ∧ gs.length ≤ 1000 ∧ (∀ g ∈ gs, g.length ≤ 1000) ∧ d = .bool (lawParted n ps gs)
def RFull (ds : List PyData) (d : PyData) : Prop := ∃ (n : Int) (ps : List (Int × Int)) (m : Int) (gs : List (List Int)), ds = [.int n, .list (pL ps), .int m, .list (gL gs)] ∧ 1 ≤ n ∧ n ≤ 100000 ∧ 1 ≤ m ∧ InWeb n ps ∧ ps.length ≤ 100000 ∧ gs.length ≤ 1000 ∧ (∀ g ∈ gs, g.length ≤ 1000) ∧ d = .bool (lawFull n ps m gs)
def RWeb (f : Int → List (Int × Int) → PyData) (ds : List PyData) (d : PyData) : Prop := ∃ (n : Int) (ps : List (Int × Int)), ds = [.int n, .list (pL ps)] ∧ 0 ≤ n ∧ n ≤ 1000 ∧ InWeb n ps ∧ ps.length ≤ 100000 ∧ d = f n ps
theorem rgI_at {n : Int} {i : Nat} {d : PyData} (h : (rgD 0 n)[i]? = some d) : (i : Int) < n ∧ d = .int i := by
  have hi := (List.getElem?_eq_some_iff.mp h).1
  rw [rgD_len] at hi
  rw [rgD_at hi] at h
  exact ⟨by omega, by rw [← Option.some.inj h, Int.zero_add]⟩
theorem rgI_take {n : Int} {i : Nat} (h : (i : Int) < n) : (rgI 0 n).take (i + 1) = (rgI 0 n).take i ++ [(i : Int)] := by
  refine take_at ?_
  unfold rgI
  rw [List.getElem?_map, List.getElem?_range (by omega)]
  show some ((0 : Int) + (i : Nat)) = _
  rw [Int.zero_add]
theorem rgI_len {n : Int} : (rgI 0 n).length = n.toNat := by
  unfold rgI
  rw [List.length_map, List.length_range, Int.sub_zero]
def RSays (ds : List PyData) (d : PyData) : Prop := ∃ a b : Bool, ds = [.bool a, .bool b] ∧ d = .bool (decide (a = b))
end SC

/-! SCR: new lists that are spoilt; instances made and asked. -/
namespace SC
open PySem PySem.Spec PyProof.Rows L2 Evl
/-- all but S -/
def delS (H : Hp) (S : List Addr) : Hp := fun b => if b ∈ S then none else H b
theorem delS_in {H : Hp} {S : List Addr} {a : Addr} (h : a ∈ S) : delS H S a = none := if_pos h
theorem delS_out {H : Hp} {S : List Addr} {a : Addr} (h : a ∉ S) : delS H S a = H a := if_neg h
theorem delS_ex {H : Hp} {S : List Addr} : Ex (delS H S) H := fun b o h => by
  by_cases e : b ∈ S
  · rw [delS_in e] at h; cases h
  · rwa [delS_out e] at h
theorem ex_delS {H H' : Hp} {S : List Addr} (e : Ex H H') (h : ∀ a ∈ S, H a = none) : Ex H (delS H' S) := fun b o hb => by
  rw [delS_out fun z => by rw [h b z] at hb; cases hb]
  exact e b o hb
theorem ex_delSS {H H' : Hp} {S : List Addr} (e : Ex H H') : Ex (delS H S) (delS H' S) := fun b o hb => by
  by_cases z : b ∈ S
  · rw [delS_in z] at hb; cases hb
  · rw [delS_out z] at hb ⊢; exact e b o hb
theorem mutS {H H' : Hp} {S : List Addr} {a : Addr} {o : HO} (e : Ex (delS H S) H') (h : a ∈ S) : Ex (delS H S) (upd H' a o) := Ex.mut e (delS_in h)
section
variable {n : Bool} {K : PySem.W.Frag} {w : World} {σ : L2.St} {H H' : Hp} {ta tb te tl : TE} {v : V} {d : PyData} {ds : List PyData} {tas : TA} {D : Ends} {tz tu : TS} {E : XK}
/-- for x in l: x.append(0), l a list of lists that this def knows -/
theorem q_spoil {i j : Nat} {p : Addr} {ps : List Addr} (hi : i ≠ j) (hj : j < σ.length) (hv : σ[i]? = some (some (.ref p))) (hp : H p = some (.lst (ps.map V.ref))) (nd : (p :: ps).Nodup) (each : ∀ q ∈ ps, ∃ xs, H q = some (.lst xs) ∧ xs.length ≤ 100000)
    (k : ∀ x H', Ex (delS H ps) H' → (∀ q xs, q ∈ ps → H q = some (.lst xs) → H' q = some (.lst (xs ++ [.int 0]))) → tz D (σ.set j x) H') :
    tSeq (tFor (iList K (tVar i)) (gName j) (tDrop (tBM K "list" rAppend (tVar j) (tCons (tC (.int 0)) tNil)))) tz D σ H := by
  obtain ⟨n1, n2⟩ := List.nodup_cons.mp nd
  refine ⟨_, hv, p, rfl, ⟨_, sq_of hp⟩, for_list (K := K) (a := p) (xs := ps.map V.ref) (fun m σ' H' => (∃ x, σ' = σ.set j x) ∧ Ex (delS H ps) H' ∧ ∀ (c : Nat) (q : Addr) (xs : List V), ps[c]? = some q → H q = some (.lst xs) → H' q = some (.lst (if c < m then xs ++ [.int 0] else xs)))
    ⟨⟨σ[j], by rw [List.set_getElem_self]⟩, delS_ex, fun c q xs h1 h2 => by rw [if_neg (Nat.not_lt_zero _)]; exact h2⟩ (fun m σ' H' _ h => sq_of (h.2.1 _ _ (by rw [delS_out n1]; exact hp))) ?_ ?_⟩
  · rintro m x σ' H' hx ⟨⟨y, rfl⟩, he, hq⟩
    rw [List.getElem?_map] at hx
    cases hc : ps[m]? with
    | none =>
      rw [hc] at hx
      cases hx
    | some q =>
      rw [hc] at hx
      cases hx
      have hqm : q ∈ ps := List.mem_of_getElem? hc
      obtain ⟨xs, hxs, hl⟩ := each q hqm
      have hq' := hq m q xs hc hxs
      rw [if_neg (Nat.lt_irrefl _)] at hq'
      refine ⟨.ref q, by rw [List.set_set, List.getElem?_set_self hj], .inl ⟨rfl, xs, sq_of hq'⟩, q, xs, .int 0, rfl, rfl, hq', Nat.lt_of_le_of_lt hl (by decide), ⟨_, List.set_set ..⟩, mutS he hqm, fun c q' xs' h1 h2 => ?_⟩
      by_cases e : c = m
      · subst e
        rw [hc] at h1
        cases h1
        rw [hxs] at h2
        cases h2
        rw [if_pos (Nat.lt_succ_self _), upd_same]
      · have ne : q' ≠ q := fun z => e (nd_ix n2 h1 (by rw [z]; exact hc))
        rw [upd_ne ne, hq c q' xs' h1 h2]
        by_cases lt : c < m
        · rw [if_pos lt, if_pos (Nat.lt_succ_of_lt lt)]
        · rw [if_neg lt, if_neg (by omega)]
  · rintro σ' H' ⟨⟨y, rfl⟩, he, hq⟩
    refine k y H' he fun q xs hm h2 => ?_
    obtain ⟨c, hc⟩ := List.getElem?_of_mem hm
    have q' := hq c q xs hc h2
    rw [if_pos (by rw [List.length_map]; exact (List.getElem?_eq_some_iff.mp hc).1)] at q'
    exact q'
/-! instances made -/
theorem mk_groups {C : Addr} {gs : List (List Int)} (h : EvAs tas σ H [.list (gL gs)]) (hl : gs.length ≤ 1000) {H1 : Hp} (e : Ex H H1) {Q : VK}
    (k : ∀ x dx p ps H2, Ex H1 H2 → H1 x = none → H2 x = some (.ins C dx [("groups", .ref p)]) → Gn H1 H2 p ps gs → Q (.ref x) H2) : tMake C (spGroupsI C) [] E tas σ H1 Q := h H1 e _ fun vs H2 e2 hv => by
  obtain ⟨v, rfl, hw⟩ := hv.one
  intro x dx nx nd ne
  have em := made_ex (C := C) (fs := []) nx nd
  refine ⟨x, dx, v, gs, rfl, upd_same, hw.ex em, hl, fun p ps H' eb hx G => ⟨rfl, k x dx p ps H' (e2.trans (ExBut.made nx nd eb)) (fresh_back e2 nx) hx (G.back (e2.trans em))⟩⟩
theorem mk_crowd {C : Addr} {xs : List Int} (h : EvAs tas σ H [.list (iL xs)]) {H1 : Hp} (e : Ex H H1) {Q : VK}
    (k : ∀ x dx p H2, Ex H1 H2 → H1 x = none → H1 p = none → H2 x = some (.ins C dx [("some", .ref p)]) → H2 p = some (.lst (xs.map V.int)) → Q (.ref x) H2) : tMake C (spCrowdI C) [] E tas σ H1 Q := h H1 e _ fun vs H2 e2 hv => by
  obtain ⟨v, rfl, hw⟩ := hv.one
  intro x dx nx nd ne
  have em := made_ex (C := C) (fs := []) nx nd
  refine ⟨x, dx, v, xs, rfl, upd_same, hw.ex em, fun p H' hp eb hx hpp => ⟨rfl, k x dx p H' (e2.trans (ExBut.made nx nd eb)) (fresh_back e2 nx) (fresh_back (e2.trans em) hp) hx hpp⟩⟩
theorem mk_spare {C : Addr} {j : Int} (h : EvAs tas σ H [.int j]) {H1 : Hp} (e : Ex H H1) {Q : VK}
    (k : ∀ x dx H2, Ex H1 H2 → H1 x = none → H2 x = some (.ins C dx [("ties", .int j)]) → Q (.ref x) H2) : tMake C (spSpareI C) [] E tas σ H1 Q := h H1 e _ fun vs H2 e2 hv => by
  obtain ⟨v, rfl, hw⟩ := hv.one
  cases hw.int_inv
  intro x dx nx nd ne
  refine ⟨x, dx, j, rfl, upd_same, fun H' eb hx => ⟨rfl, k x dx H' (e2.trans (ExBut.made nx nd eb)) (fresh_back e2 nx) hx⟩⟩
theorem mk_three {C : Addr} {a b c : Int} (h : EvAs tas σ H [.int a, .int b, .int c]) {H1 : Hp} (e : Ex H H1) {Q : VK}
    (k : ∀ x dx H2, Ex H1 H2 → H1 x = none → H2 x = some (.ins C dx [("one", .int a), ("other", .int b), ("third", .int c)]) → Q (.ref x) H2) : tMake C (spThreeI C) [] E tas σ H1 Q := h H1 e _ fun vs H2 e2 hv => by
  obtain ⟨v1, v2, v3, rfl, h1, h2, h3⟩ := hv.three
  cases h1.int_inv
  cases h2.int_inv
  cases h3.int_inv
  intro x dx nx nd ne
  refine ⟨x, dx, a, b, c, rfl, upd_same, fun H' eb hx => ⟨rfl, k x dx H' (e2.trans (ExBut.made nx nd eb)) (fresh_back e2 nx) hx⟩⟩
theorem q_lst2 {i : Nat} (h : ta σ H fun u H1 => tb σ H1 fun v H2 => 2 ≤ sizeLine ∧ ∀ L, H2 L = none → tz D (σ.set i (some (.ref L))) (upd H2 L (.lst [u, v]))) : tSeq (tAsg (tLst (tCons ta (tCons tb tNil))) (gName i)) tz D σ H := h
theorem q_set {i : Nat} (h : te σ H fun u H1 => tz D (σ.set i (some u)) H1) : tSeq (tAsg te (gName i)) tz D σ H := h
/-! instances asked -/
theorem ev_v {i : Nat} (h : σ[i]? = some (some v)) : Ev (tVar i) σ H v := ev_var h
theorem d_meth {Cs : Addr → Sp → Prop} {m : Str} {a C dx : Addr} {fs : List (Str × V)} {sp : Sp} (ha : Ev ta σ H (.ref a)) (hx : H a = some (.ins C dx fs)) (hC : Cs C sp) (hl : fs.lookup m = none) (ht : EvAs tas σ H ds)
    (hs : ∀ vs H1, Ex H H1 → DtAll H1 vs ds → ∀ Q : VK, Kd n d H1 Q → ∀ E : XK, sp (.ref a :: vs) H1 Q E) : EvR n (tMethF Cs m E ta tas) σ H d := fun H1 e1 Q q =>
  ha H1 e1 _ fun H2 e2 => ⟨a, C, dx, fs, sp, rfl, e2 _ _ (e1 _ _ hx), hC, hl, ht H2 (e1.trans e2) _ fun vs H3 e3 hv => hs vs H3 ((e1.trans e2).trans e3) hv Q (q.back (e2.trans e3)) E⟩
theorem d_fldV {a C dx : Addr} {fs : List (Str × V)} {f : Str} (h : Ev ta σ H (.ref a)) (ha : H a = some (.ins C dx fs)) (c : Cls K C) (nn : NoAttr K C f) (hl : fs.lookup f = some v) (hd : Dt H v d) : EvD (tFld K ta f) σ H d := fun H1 e1 Q q =>
  h H1 e1 _ fun H2 e2 => ⟨a, C, dx, fs, v, rfl, e2 _ _ (e1 _ _ ha), c, nn, hl, q v H2 e2 (hd.ex (e1.trans e2)) Fr.no⟩
end
/-- the answers' words: the classes by their number of arguments -/
structure Ans where
  Crowd : Addr
  Full : Addr
  Spare : Addr
  Parted : Addr
  Three : Addr
inductive Cs3 (A : Ans) : Addr → Sp → Prop
  | crowd : Cs3 A A.Crowd (spCrowdS A.Crowd)
  | full : Cs3 A A.Full (spFullS A.Full)
  | spare : Cs3 A A.Spare (spSpareS A.Spare)
inductive Cs2 (A : Ans) : Addr → Sp → Prop
  | parted : Cs2 A A.Parted (spPartedS A.Parted)
  | three : Cs2 A A.Three (spThreeS A.Three)
section
variable {A : Ans} {K : PySem.W.Frag} {σ : L2.St} {H : Hp} {ta : TE} {tas : TA} {E : XK} {a dx : Addr} {v : V} {n m : Int} {ps : List (Int × Int)}
theorem sh_crowd {xs : List Int} (ha : Ev ta σ H (.ref a)) (hx : H a = some (.ins A.Crowd dx [("some", v)])) (hv : Dt H v (.list (iL xs))) (ht : EvAs tas σ H [.int n, .list (pL ps), .int m]) (h0 : 0 ≤ n) (h1 : n ≤ 100000) (hw : InWeb n ps) (hp : ps.length ≤ 100000) (hl : xs.length < 64) :
    EvD (tMethF (Cs3 A) "shows" E ta tas) σ H (.bool (decide ((xs.length : Int) = m + 1) && isCrowd n ps xs)) := d_meth ha hx .crowd rfl ht fun vs H1 e1 hvs Q q E => by
  obtain ⟨v1, v2, v3, rfl, b1, b2, b3⟩ := hvs.three
  cases b1.int_inv
  cases b3.int_inv
  exact ⟨a, dx, v, v2, n, m, ps, xs, rfl, e1 _ _ hx, hv.ex e1, b2, h0, h1, hw, hp, hl, q⟩
theorem sh_full {gs : List (List Int)} (ha : Ev ta σ H (.ref a)) (hx : H a = some (.ins A.Full dx [("groups", v)])) (hv : Dt H v (.list (gL gs))) (ht : EvAs tas σ H [.int n, .list (pL ps), .int m]) (h0 : 1 ≤ n) (h1 : n ≤ 100000) (hm : 1 ≤ m) (hw : GroupsOk n ps gs) :
    EvD (tMethF (Cs3 A) "shows" E ta tas) σ H (.bool (fullShows n ps m gs)) := d_meth ha hx .full rfl ht fun vs H1 e1 hvs Q q E => by
  obtain ⟨v1, v2, v3, rfl, b1, b2, b3⟩ := hvs.three
  cases b1.int_inv
  cases b3.int_inv
  exact ⟨a, dx, v, v2, n, m, ps, gs, rfl, e1 _ _ hx, hv.ex e1, b2, h0, h1, hm, hw, q⟩
theorem sh_spare {k : Int} (ha : Ev ta σ H (.ref a)) (hx : H a = some (.ins A.Spare dx [("ties", .int k)])) (ht : EvAs tas σ H [.int n, .list (pL ps), .int m]) (h0 : Sz 400 n) (h1 : Sz 400 m) (hm : 1 ≤ m) :
    EvD (tMethF (Cs3 A) "shows" E ta tas) σ H (.bool (decide (0 < k) && decide (k = mostT n m - (ps.length : Int)))) := d_meth ha hx .spare rfl ht fun vs H1 e1 hvs Q q E => by
  obtain ⟨v1, v2, v3, rfl, b1, b2, b3⟩ := hvs.three
  cases b1.int_inv
  cases b3.int_inv
  exact ⟨a, dx, v2, n, m, k, ps, rfl, e1 _ _ hx, b2, h0, h1, hm, q⟩
theorem sh_parted {gs : List (List Int)} (ha : Ev ta σ H (.ref a)) (hx : H a = some (.ins A.Parted dx [("groups", v)])) (hv : Dt H v (.list (gL gs))) (ht : EvAs tas σ H [.int n, .list (pL ps)]) (h0 : 0 ≤ n) (h1 : n ≤ 100000) (hw : GroupsOk n ps gs) :
    EvD (tMethF (Cs2 A) "shows" E ta tas) σ H (.bool (areGroups n ps gs)) := d_meth ha hx .parted rfl ht fun vs H1 e1 hvs Q q E => by
  obtain ⟨v1, v2, rfl, b1, b2⟩ := hvs.two
  cases b1.int_inv
  exact ⟨a, dx, v, v2, n, ps, gs, rfl, e1 _ _ hx, hv.ex e1, b2, h0, h1, hw, q⟩
theorem sh_three {x y z : Int} (ha : Ev ta σ H (.ref a)) (hx : H a = some (.ins A.Three dx [("one", .int x), ("other", .int y), ("third", .int z)])) (ht : EvAs tas σ H [.int n, .list (pL ps)]) (h0 : 0 ≤ n) (h1 : n ≤ 100000) (hw : InWeb n ps) (hp : ps.length ≤ 100000) :
    EvD (tMethF (Cs2 A) "shows" E ta tas) σ H (.bool (isThree n ps x y z)) := d_meth ha hx .three rfl ht fun vs H1 e1 hvs Q q E => by
  obtain ⟨v1, v2, rfl, b1, b2⟩ := hvs.two
  cases b1.int_inv
  exact ⟨a, dx, v2, n, x, y, z, ps, rfl, e1 _ _ hx, b2, h0, h1, hw, hp, q⟩
end
end SC

/-! SCK: the program's look at groups and the law's agree. -/
namespace SC
theorem rgI_mem {n x : Int} : x ∈ rgI 0 n ↔ 0 ≤ x ∧ x < n := by
  unfold rgI
  rw [List.mem_map]
  constructor
  · rintro ⟨i, hi, rfl⟩
    have := List.mem_range.mp hi
    omega
  · intro h
    exact ⟨x.toNat, List.mem_range.mpr (by omega), by omega⟩
theorem rgI_nodup (n : Int) : (rgI 0 n).Nodup := by
  unfold rgI
  refine List.Pairwise.map _ (fun a b h => ?_) List.nodup_range
  intro e
  exact h (by omega)
theorem le_nodup_lt {l : List Int} (h : l.Pairwise (· ≤ ·)) (nd : l.Nodup) : l.Pairwise (· < ·) := by
  refine (h.and nd).imp fun ⟨a, b⟩ => ?_
  omega
theorem sset_srt {g : List Int} (nd : g.Nodup) : sset g = srt g := by
  refine (sset_of (le_nodup_lt (srt_le g) ?_) fun z => (srt_perm g).mem_iff).symm
  exact (srt_perm g).nodup_iff.mpr nd
theorem grpGo_disj : ∀ {gs : List (List Int)} {seen : List Int}, (seen ++ gs.flatten).Nodup → grpGo gs seen = !gs.any lawBad
  | [], _, _ => rfl
  | g :: r, seen, h => by
    have h1 : (seen ++ (g ++ r.flatten)).Nodup := by rw [List.flatten_cons] at h; exact h
    have hg : g.Nodup := (List.nodup_append.mp (List.nodup_append.mp h1).2.1).1
    have hs : (g.any fun x => decide (x ∈ seen)) = false := by
      rw [List.any_eq_false]
      intro x hx hd
      exact (List.nodup_append.mp h1).2.2 x (of_decide_eq_true hd) x (List.mem_append_left _ hx) rfl
    have eb : grpBad g seen = lawBad g := by
      unfold grpBad lawBad
      rw [hs, Bool.or_false, sset_srt hg]
    show (!grpBad g seen && grpGo r (seen ++ g)) = !(lawBad g || r.any lawBad)
    rw [eb, grpGo_disj (by rw [List.append_assoc]; exact h1), Bool.not_or]
theorem grpGo_nodup : ∀ {gs : List (List Int)} {seen : List Int}, seen.Nodup → grpGo gs seen = true → (seen ++ gs.flatten).Nodup
  | [], seen, h, _ => by simpa using h
  | g :: r, seen, h, hg => by
    obtain ⟨h1, h2⟩ := Bool.and_eq_true_iff.mp (show (!grpBad g seen && grpGo r (seen ++ g)) = true from hg)
    obtain ⟨y1, y2⟩ := or_false_inv (show (decide (g = []) || (!decide (g = sset g) || g.any fun x => decide (x ∈ seen))) = false from not_true_inv h1)
    obtain ⟨y3, y4⟩ := or_false_inv y2
    have hgs : g.Nodup := lt_nodup (sset_idem_eq (of_decide_eq_true (not_false_inv y3)))
    have hn : (seen ++ g).Nodup := List.nodup_append.mpr ⟨h, hgs, fun a ha b hb e => by
      subst e
      exact List.any_eq_false.mp y4 a hb (decide_eq_true ha)⟩
    have q := grpGo_nodup hn h2
    rw [List.flatten_cons, ← List.append_assoc]
    exact q
theorem homeF_lt {gs : List (List Int)} {x : Int} (h : x ∈ gs.flatten) : homeF gs x < gs.length := by
  unfold homeF
  refine List.findIdx_lt_length_of_exists ?_
  obtain ⟨g, hg, hx⟩ := List.mem_flatten.mp h
  exact ⟨g, hg, decide_eq_true hx⟩
theorem home_same : ∀ {gs : List (List Int)} {x : Int}, gs.flatten.Nodup → x ∈ gs.flatten → homeL gs x = homeF gs x := by
  intro gs
  induction hn : gs.length generalizing gs with
  | zero =>
    intro x _ h
    rw [List.eq_nil_of_length_eq_zero hn] at h
    cases h
  | succ k ih =>
    intro x nd hx
    have hne : gs ≠ [] := fun z => by rw [z] at hn; cases hn
    have e : gs = gs.dropLast ++ [gs.getLast hne] := (List.dropLast_concat_getLast hne).symm
    generalize gs.dropLast = init at e
    generalize gs.getLast hne = g at e
    subst e
    rw [List.length_append] at hn
    have hn' : init.length = k := by simpa using hn
    rw [List.flatten_append] at nd hx
    have e1 : [g].flatten = g := by simp
    rw [e1] at nd hx
    obtain ⟨n1, n2, n3⟩ := List.nodup_append.mp nd
    rw [homeL_snoc]
    by_cases hg : x ∈ g
    · rw [if_pos hg]
      have hi : x ∉ init.flatten := fun z => n3 x z x hg rfl
      symm
      refine homeF_at (g := g) (by rw [List.getElem?_append_right (Nat.le_refl _), Nat.sub_self]; rfl) hg ?_
      rw [List.take_left]
      exact hi
    · rw [if_neg hg]
      have hx' : x ∈ init.flatten := (List.mem_append.mp hx).resolve_right hg
      rw [ih hn' n1 hx']
      have hlt := homeF_lt hx'
      unfold homeF at hlt ⊢
      rw [List.findIdx_append, if_pos hlt]
theorem cross_sum (n : Int) : ∀ (gs : List (List Int)), crossS n gs = n * (gs.flatten.length : Int) - sqs gs
  | [] => by simp [crossS, sqs]
  | g :: r => by
    have h := cross_sum n r
    unfold crossS sqs at h ⊢
    rw [List.map_cons, List.sum_cons, h, List.map_cons, List.sum_cons, List.flatten_cons, List.length_append, Int.natCast_add, Int.mul_add, Int.mul_sub, Int.mul_comm n (g.length : Int)]
    omega
theorem all_ext {α : Type} {l : List α} {f g : α → Bool} (h : ∀ a ∈ l, f a = g a) : l.all f = l.all g := by
  induction l with
  | nil => rfl
  | cons a r ih => rw [List.all_cons, List.all_cons, h a List.mem_cons_self, ih fun b hb => h b (List.mem_cons_of_mem _ hb)]
/-- the two looks at groups are one -/
theorem groups_same {n : Int} (h0 : 0 ≤ n) {ps : List (Int × Int)} (hw : InWeb n ps) (gs : List (List Int)) : areGroups n ps gs = lawParted n ps gs := by
  unfold areGroups lawParted
  by_cases h : srt gs.flatten = rgI 0 n
  · have pm : (rgI 0 n).Perm gs.flatten := by rw [← h]; exact srt_perm _
    have nd : gs.flatten.Nodup := pm.nodup_iff.mp (rgI_nodup n)
    have len : (gs.flatten.length : Int) = n := by
      rw [← pm.length_eq, rgI_len]
      omega
    have e1 : grpGo gs [] = !gs.any lawBad := grpGo_disj (by rw [List.nil_append]; exact nd)
    have e2 : (ps.all fun p => !decide ((homeF gs p.1 : Int) = (homeF gs p.2 : Int))) = !ps.any fun p => decide ((homeL gs p.1 : Int) = (homeL gs p.2 : Int)) := by
      rw [List.not_any_eq_all_not]
      refine all_ext fun p hp => ?_
      obtain ⟨w1, w2, w3, w4⟩ := hw p hp
      have m1 : p.1 ∈ gs.flatten := pm.mem_iff.mp (rgI_mem.mpr ⟨w1, w2⟩)
      have m2 : p.2 ∈ gs.flatten := pm.mem_iff.mp (rgI_mem.mpr ⟨w3, w4⟩)
      rw [home_same nd m1, home_same nd m2]
    have e3 : decide (2 * (ps.length : Int) = n * n - sqs gs) = decide ((ps.length : Int) * 2 = crossS n gs) := by
      rw [cross_sum, len, Int.mul_comm]
    rw [decide_eq_true h, e1, e2, e3]
    cases gs.any lawBad <;> cases (ps.any fun p => decide ((homeL gs p.1 : Int) = (homeL gs p.2 : Int))) <;> cases decide ((ps.length : Int) * 2 = crossS n gs) <;> rfl
  · rw [decide_eq_false h]
    cases grpGo gs [] <;> cases gs.any lawBad <;> rfl
theorem full_same {n m : Int} (h0 : 1 ≤ n) {ps : List (Int × Int)} (hw : InWeb n ps) (gs : List (List Int)) : fullShows n ps m gs = lawFull n ps m gs := by
  unfold fullShows lawFull
  rw [groups_same (by omega) hw]
  have e : decide (spread gs < 2) = !decide (1 < spread gs) := by
    by_cases h : spread gs < 2
    · rw [decide_eq_true h, decide_eq_false (by omega)]; rfl
    · rw [decide_eq_false h, decide_eq_true (by omega)]; rfl
  rw [e]
  cases decide ((gs.length : Int) = min n m) <;> cases lawParted n ps gs <;> cases decide (1 < spread gs) <;> rfl
/-- what keeps groups within bounds -/
theorem groupsOk_of {n : Int} {ps : List (Int × Int)} {gs : List (List Int)} (hn : n ≤ 60) (hw : InWeb n ps) (hp : ps.length ≤ 100000) (hl : gs.length ≤ 1000) (hg : ∀ g ∈ gs, g.length ≤ 63) (hr : ∀ g ∈ gs, ∀ x ∈ g, -1 ≤ x ∧ x ≤ n) : GroupsOk n ps gs := by
  refine ⟨hw, hp, hl, hg, fun h => ?_⟩
  have nd := grpGo_nodup List.nodup_nil h
  rw [List.nil_append] at nd
  have q : gs.flatten.length ≤ ((rgI 0 62).map fun x => x - 1).length := nodup_len nd fun z hz => by
    obtain ⟨g, hgm, hx⟩ := List.mem_flatten.mp hz
    have := hr g hgm z hx
    exact List.mem_map.mpr ⟨z + 1, rgI_mem.mpr (by omega), by omega⟩
  rw [List.length_map, rgI_len] at q
  have : (62 : Int).toNat = 62 := rfl
  omega
end SC

/-! SCL: for the law of answers made by hand: groups drawn, lists of lists of lists, answers asked at once. -/
namespace SC
open PySem PySem.Spec PyProof.Rows L2 Evl
def gG (g : List (List Int)) : PyData := .list (gL g)
theorem inner_ne {H : Hp} {l : Addr} {x0 : V} {xs : List V} {a : List Int} {b : List (List Int)} (hl : H l = some (.lst (x0 :: xs))) (h0 : Dt H x0 (gG (a :: b))) {k : List Int} {c : Addr} {zs : List V} (hc : H c = some (.lst zs)) (hz : DtAll H zs (iL k)) : c ≠ l := by
  rintro rfl
  rw [hl] at hc
  cases hc
  cases k with
  | nil => cases hz
  | cons i r =>
    cases hz with
    | cons p q =>
      obtain ⟨e, ys, e2, _⟩ := h0.lst_inv
      cases p.int_inv
      cases e2
theorem outer_ne {H : Hp} {l : Addr} {x0 : V} {xs : List V} {a : List Int} {b : List (List Int)} (hl : H l = some (.lst (x0 :: xs))) (h0 : Dt H x0 (gG (a :: b))) {g : List (List Int)} {c : Addr} {zs : List V} (hc : H c = some (.lst zs)) (hz : DtAll H zs (gL g)) : c ≠ l := by
  rintro rfl
  rw [hl] at hc
  cases hc
  cases g with
  | nil => cases hz
  | cons i r =>
    cases hz with
    | cons p q =>
      obtain ⟨e, ys, e2, h2, h3⟩ := h0.lst_inv
      cases e2
      obtain ⟨e, ys2, e2, h4, h5⟩ := p.lst_inv
      cases e2
      rw [h2] at h4
      cases h4
      cases ys with
      | nil => cases h3
      | cons y yr =>
        cases i with
        | nil => cases h5
        | cons j jr =>
          cases h5 with
          | cons u1 u2 =>
            cases h3 with
            | cons w1 w2 =>
              cases u1.int_inv
              obtain ⟨e, ys, e2, _⟩ := w1.lst_inv
              cases e2
theorem all_updG {H : Hp} {l : Addr} {o : HO} {x0 : V} {xs : List V} {a : List Int} {b : List (List Int)} (hl : H l = some (.lst (x0 :: xs))) (h0 : Dt H x0 (gG (a :: b))) : ∀ {vs : List V} {g : List (List Int)}, DtAll H vs (gL g) → DtAll (upd H l o) vs (gL g)
  | _, [], h => by cases h; exact .nil
  | _, k :: r, h => by
    cases h with
    | cons p q =>
      refine .cons ?_ (all_updG hl h0 q)
      obtain ⟨c, zs, e, hc, hz⟩ := p.lst_inv
      subst e
      have ne := inner_ne hl h0 hc hz
      cases hz.iL_inv
      exact .lst (by rw [upd_ne ne]; exact hc) (DtAll.iL_mk k)
theorem dt_updG {H : Hp} {l : Addr} {o : HO} {x0 : V} {xs : List V} {a : List Int} {b : List (List Int)} (hl : H l = some (.lst (x0 :: xs))) (h0 : Dt H x0 (gG (a :: b))) {v : V} {g : List (List Int)} (h : Dt H v (gG g)) : Dt (upd H l o) v (gG g) := by
  obtain ⟨c, zs, rfl, hc, hz⟩ := h.lst_inv
  exact .lst (by rw [upd_ne (outer_ne hl h0 hc hz)]; exact hc) (all_updG hl h0 hz)
theorem all_updGG {H : Hp} {l : Addr} {o : HO} {x0 : V} {xs : List V} {a : List Int} {b : List (List Int)} (hl : H l = some (.lst (x0 :: xs))) (h0 : Dt H x0 (gG (a :: b))) : ∀ {vs : List V} {ts : List (List (List Int))}, DtAll H vs (ts.map gG) → DtAll (upd H l o) vs (ts.map gG)
  | _, [], h => by cases h; exact .nil
  | _, k :: r, h => by
    cases h with
    | cons p q => exact .cons (dt_updG hl h0 p) (all_updGG hl h0 q)
/-- one more at the end of a list of lists of lists -/
theorem appGG {H : Hp} {l : Addr} {xs : List V} {a : List Int} {b : List (List Int)} {ts : List (List (List Int))} {v : V} {t : List (List Int)} (hl : H l = some (.lst xs)) (hx : DtAll H xs (((a :: b) :: ts).map gG)) (hv : Dt H v (gG t)) : DtAll (upd H l (.lst (xs ++ [v]))) (xs ++ [v]) (((a :: b) :: (ts ++ [t])).map gG) := by
  cases xs with
  | nil => cases hx
  | cons x0 xr =>
    have h0 : Dt H x0 (gG (a :: b)) := by cases hx; assumption
    have q := DtAll.append (all_updGG (o := .lst (x0 :: xr ++ [v])) hl h0 hx) (.cons (dt_updG (o := .lst (x0 :: xr ++ [v])) hl h0 hv) .nil)
    have e : ((a :: b) :: ts).map gG ++ [gG t] = ((a :: b) :: (ts ++ [t])).map gG := by simp
    rw [e] at q
    exact q
/-! groups in bounds -/
def GB (n : Int) (k L : Nat) (gs : List (List Int)) : Prop := gs.length ≤ k ∧ ∀ g ∈ gs, g.length ≤ L ∧ ∀ x ∈ g, -1 ≤ x ∧ x ≤ n
section
variable {n : Int} {k l L : Nat} {gs hs : List (List Int)}
theorem GB.app (h1 : GB n k L gs) (h2 : GB n l L hs) : GB n (k + l) L (gs ++ hs) := ⟨by have := h1.1; have := h2.1; rw [List.length_append]; omega, fun g hg => (List.mem_append.mp hg).elim (h1.2 g) (h2.2 g)⟩
theorem GB.sub (h1 : GB n k L gs) (h : ∀ g ∈ hs, g ∈ gs) (hl : hs.length ≤ gs.length) : GB n k L hs := ⟨Nat.le_trans hl h1.1, fun g hg => h1.2 g (h g hg)⟩
theorem GB.take (h1 : GB n k L gs) (j : Nat) : GB n k L (gs.take j) := h1.sub (fun _ => List.mem_of_mem_take) (by rw [List.length_take]; omega)
theorem GB.drop (h1 : GB n k L gs) (j : Nat) : GB n k L (gs.drop j) := h1.sub (fun _ => List.mem_of_mem_drop) (by rw [List.length_drop]; omega)
theorem GB.rev (h1 : GB n k L gs) : GB n k L gs.reverse := h1.sub (fun _ => List.mem_reverse.mp) (by rw [List.length_reverse]; omega)
theorem GB.mono (h1 : GB n k L gs) {k' L' : Nat} (h : k ≤ k') (h2 : L ≤ L') : GB n k' L' gs := ⟨Nat.le_trans h1.1 h, fun g hg => ⟨Nat.le_trans (h1.2 g hg).1 h2, (h1.2 g hg).2⟩⟩
theorem GB.one {g : List Int} (h : g.length ≤ L) (h2 : ∀ x ∈ g, -1 ≤ x ∧ x ≤ n) : GB n 1 L [g] := ⟨Nat.le_refl _, fun x hx => by rw [List.mem_singleton.mp hx]; exact ⟨h, h2⟩⟩
theorem GB.nil : GB n 0 L [] := ⟨Nat.le_refl _, fun _ h => nomatch h⟩
theorem GB.getD (h1 : GB n k L gs) (j : Nat) : (gs.getD j []).length ≤ L ∧ ∀ x ∈ gs.getD j [], -1 ≤ x ∧ x ≤ n := by
  rw [List.getD_eq_getElem?_getD]
  cases h : gs[j]? with
  | none => exact ⟨Nat.zero_le _, fun _ h => nomatch h⟩
  | some g => exact h1.2 g (List.mem_of_getElem? h)
end
theorem groupsTo_mem {n : Int} {ps : List (Int × Int)} : ∀ (m : Nat) {xs : List Int}, xs.length = m → ∀ g ∈ lawGroupsTo n ps xs, ∃ x ∈ xs, g = aloof n ps x
  | 0, xs, h, g, hg => by
    have e : xs = [] := List.eq_nil_of_length_eq_zero h
    subst e
    cases hg
  | m + 1, xs, h, g, hg => by
    have hne : xs ≠ [] := fun z => by rw [z] at h; cases h
    have e : xs = xs.dropLast ++ [xs.getLast hne] := (List.dropLast_concat_getLast hne).symm
    rw [e, lawGroupsTo_snoc] at hg
    have ih := groupsTo_mem (n := n) (ps := ps) m (xs := xs.dropLast) (by rw [List.length_dropLast]; omega)
    have hd : g ∈ lawGroupsTo n ps xs.dropLast → ∃ x ∈ xs, g = aloof n ps x := fun z => by
      obtain ⟨x, hx, q⟩ := ih g z
      exact ⟨x, (List.dropLast_sublist xs).subset hx, q⟩
    unfold addNew at hg
    split at hg
    · exact hd hg
    · rcases List.mem_append.mp hg with z | z
      · exact hd z
      · exact ⟨_, List.getLast_mem hne, List.mem_singleton.mp z⟩
theorem groupsTo_ne {n : Int} {ps : List (Int × Int)} {xs : List Int} (hne : xs ≠ []) : lawGroupsTo n ps xs ≠ [] := by
  have e : xs = xs.dropLast ++ [xs.getLast hne] := (List.dropLast_concat_getLast hne).symm
  rw [e, lawGroupsTo_snoc]
  unfold addNew
  split
  · rename_i h
    intro z
    rw [z] at h
    cases h
  · intro z
    have := congrArg List.length z
    rw [List.length_append] at this
    simp at this
theorem aloof_self {n : Int} {ps : List (Int × Int)} (hW : WebOk n ps) {x : Int} (hx : x ∈ rgI 0 n) : x ∈ aloof n ps x := by
  refine List.mem_filter.mpr ⟨hx, ?_⟩
  have : nearF ps x x = false := by
    unfold nearF
    rw [List.any_eq_false]
    intro p hp
    have := hW.tie p hp
    have a1 : ¬ (p.1 = x ∧ p.2 = x) := by omega
    rw [decide_eq_false a1]
    decide
  rw [this]
  rfl
theorem groups_ok {n : Int} {ps : List (Int × Int)} (n1 : 1 ≤ n) (n60 : n ≤ 60) (hW : WebOk n ps) : GB n 60 60 (lawGroups n ps) ∧ ∃ a b, lawGroups n ps = a :: b := by
  refine ⟨⟨?_, fun g hg => ?_⟩, ?_⟩
  · have := lawGroupsTo_len n ps (rgI 0 n)
    rw [rgI_len] at this
    unfold lawGroups
    omega
  · obtain ⟨x, hx, rfl⟩ := groupsTo_mem _ rfl g hg
    constructor
    · have : (aloof n ps x).length ≤ (rgI 0 n).length := List.length_filter_le _ _
      rw [rgI_len] at this
      omega
    · intro y hy
      have := rgI_mem.mp (List.mem_filter.mp hy).1
      omega
  · cases h : lawGroups n ps with
    | nil =>
      exfalso
      refine groupsTo_ne (n := n) (ps := ps) (xs := rgI 0 n) (fun z => ?_) h
      have := rgI_len (n := n)
      rw [z] at this
      simp at this
      omega
    | cons a b => exact ⟨a, b, rfl⟩
/-! the sum of the script -/
theorem sz_sum {b : Nat} : ∀ {l : List Int}, (∀ z ∈ l, Sz b z) → Sz (b + l.length) l.sum
  | [], _ => by show (0 : Int).natAbs < 2 ^ (b + 0); exact Nat.lt_of_lt_of_le (by decide : (0 : Int).natAbs < 1) Nat.one_le_two_pow
  | z :: r, h => by
    rw [List.sum_cons]
    exact Sz.add ((h z List.mem_cons_self).mono (Nat.le_add_right _ _)) (sz_sum fun y hy => h y (List.mem_cons_of_mem _ hy))
/-! the most ties by either way -/
theorem tri_up (q : Int) : q * (q + 1) / 2 = q * (q - 1) / 2 + q := by
  have e : q * (q + 1) = q * (q - 1) + q * 2 := by
    rw [Int.mul_add, Int.mul_sub]
    omega
  rw [e, Int.add_mul_ediv_right _ _ (by decide)]
theorem most_same (p m : Int) : lawMost p m = mostT p m := by
  unfold lawMost mostT
  rw [tri_up, Int.mul_add, Int.sub_mul]
  omega
/-! answers made and asked at once -/
section
variable {A : Ans} {K : PySem.W.Frag} {σ : L2.St} {H : Hp} {ta : TE} {tas tat : TA} {E E2 : XK} {a dx : Addr} {v : V} {n m : Int} {ps : List (Int × Int)}
theorem n_crowd {xs : List Int} (h : EvAs tas σ H [.list (iL xs)]) (ht : EvAs tat σ H [.int n, .list (pL ps), .int m]) (h0 : 0 ≤ n) (h1 : n ≤ 100000) (hw : InWeb n ps) (hp : ps.length ≤ 100000) (hl : xs.length < 64) :
    EvD (tMethF (Cs3 A) "shows" E2 (tMake A.Crowd (spCrowdI A.Crowd) [] E tas) tat) σ H (.bool (decide ((xs.length : Int) = m + 1) && isCrowd n ps xs)) := fun H1 e1 Q q => mk_crowd h e1 fun x dx p H2 e2 nx np hx hp2 =>
  sh_crowd (A := A) (E := E2) (ta := fun _ H Q => Q (.ref x) H) (tas := tat) (σ := σ) (H := H2) (fun H3 e3 Q2 q2 => q2 H3 (Ex.refl _)) hx (.lst hp2 (DtAll.iL_mk xs)) (fun H3 e3 => ht H3 ((e1.trans e2).trans e3)) h0 h1 hw hp hl H2 (Ex.refl _) Q (q.back e2)
theorem n_full {gs : List (List Int)} (h : EvAs tas σ H [.list (gL gs)]) (hgl : gs.length ≤ 1000) (ht : EvAs tat σ H [.int n, .list (pL ps), .int m]) (h0 : 1 ≤ n) (h1 : n ≤ 100000) (hm : 1 ≤ m) (hw : GroupsOk n ps gs) :
    EvD (tMethF (Cs3 A) "shows" E2 (tMake A.Full (spGroupsI A.Full) [] E tas) tat) σ H (.bool (fullShows n ps m gs)) := fun H1 e1 Q q => mk_groups h hgl e1 fun x dx p ps2 H2 e2 nx hx G =>
  sh_full (A := A) (E := E2) (ta := fun _ H Q => Q (.ref x) H) (tas := tat) (σ := σ) (H := H2) (fun H3 e3 Q2 q2 => q2 H3 (Ex.refl _)) hx G.dt (fun H3 e3 => ht H3 ((e1.trans e2).trans e3)) h0 h1 hm hw H2 (Ex.refl _) Q (q.back e2)
theorem n_spare {k : Int} (h : EvAs tas σ H [.int k]) (ht : EvAs tat σ H [.int n, .list (pL ps), .int m]) (h0 : Sz 400 n) (h1 : Sz 400 m) (hm : 1 ≤ m) :
    EvD (tMethF (Cs3 A) "shows" E2 (tMake A.Spare (spSpareI A.Spare) [] E tas) tat) σ H (.bool (decide (0 < k) && decide (k = mostT n m - (ps.length : Int)))) := fun H1 e1 Q q => mk_spare h e1 fun x dx H2 e2 nx hx =>
  sh_spare (A := A) (E := E2) (ta := fun _ H Q => Q (.ref x) H) (tas := tat) (σ := σ) (H := H2) (fun H3 e3 Q2 q2 => q2 H3 (Ex.refl _)) hx (fun H3 e3 => ht H3 ((e1.trans e2).trans e3)) h0 h1 hm H2 (Ex.refl _) Q (q.back e2)
theorem f_spare {C : Addr} {k : Int} (h : EvAs tas σ H [.int k]) (c : Cls K C) (nn : NoAttr K C "ties") : EvD (tFld K (tMake C (spSpareI C) [] E tas) "ties") σ H (.int k) := fun H1 e1 Q q => mk_spare h e1 fun x dx H2 e2 nx hx =>
  ⟨x, C, dx, _, _, rfl, hx, c, nn, rfl, q _ H2 e2 (.int _) Fr.no⟩
end
def spGRight : Sp := fun vs H Q _ => ∃ (n m : Int) (ps : List (Int × Int)) (gs : List (List Int)) (vt vg : V), vs = [.int n, vt, .int m, vg] ∧ Dt H vt (.list (pL ps)) ∧ Dt H vg (.list (gL gs)) ∧ 1 ≤ n ∧ n ≤ 60 ∧ 1 ≤ m ∧ WebOk n ps ∧ gs.length ≤ 1000 ∧
  (∀ g ∈ gs, g.length ≤ 63) ∧ (∀ g ∈ gs, ∀ x ∈ g, -1 ≤ x ∧ x ≤ n) ∧ Kd false (.bool true) H Q
def spCRight : Sp := fun vs H Q _ => ∃ (n m : Int) (ps : List (Int × Int)) (xs : List Int) (vt vg : V), vs = [.int n, vt, .int m, vg] ∧ Dt H vt (.list (pL ps)) ∧ Dt H vg (.list (iL xs)) ∧ 1 ≤ n ∧ n ≤ 60 ∧ 1 ≤ m ∧ WebOk n ps ∧ xs.length < 64 ∧ Kd false (.bool true) H Q
theorem DtAll.four {H : Hp} {vs : List V} {d d2 d3 d4 : PyData} (h : DtAll H vs [d, d2, d3, d4]) : ∃ v v2 v3 v4, vs = [v, v2, v3, v4] ∧ Dt H v d ∧ Dt H v2 d2 ∧ Dt H v3 d3 ∧ Dt H v4 d4 := by
  cases h with
  | cons a r =>
    obtain ⟨v2, v3, v4, rfl, b, c, e⟩ := r.three
    exact ⟨_, _, _, _, rfl, a, b, c, e⟩
section
variable {σ : L2.St} {H : Hp} {tas : TA} {E : XK} {n m : Int} {ps : List (Int × Int)}
theorem d_gright {gs : List (List Int)} (h : EvAs tas σ H [.int n, .list (pL ps), .int m, gG gs]) (n1 : 1 ≤ n) (n60 : n ≤ 60) (hm : 1 ≤ m) (hW : WebOk n ps) (hg : GB n 100 63 gs) : EvD (tCall spGRight [] E tas) σ H (.bool true) := d_call h fun vs H1 e1 hv Q q E => by
  obtain ⟨v1, v2, v3, v4, rfl, b1, b2, b3, b4⟩ := hv.four
  cases b1.int_inv
  cases b3.int_inv
  exact ⟨n, m, ps, gs, v2, v4, rfl, b2, b4, n1, n60, hm, hW, by have := hg.1; omega, fun g x => (hg.2 g x).1, fun g x => (hg.2 g x).2, q⟩
theorem d_cright {xs : List Int} (h : EvAs tas σ H [.int n, .list (pL ps), .int m, .list (iL xs)]) (n1 : 1 ≤ n) (n60 : n ≤ 60) (hm : 1 ≤ m) (hW : WebOk n ps) (hg : xs.length < 64) : EvD (tCall spCRight [] E tas) σ H (.bool true) := d_call h fun vs H1 e1 hv Q q E => by
  obtain ⟨v1, v2, v3, v4, rfl, b1, b2, b3, b4⟩ := hv.four
  cases b1.int_inv
  cases b3.int_inv
  exact ⟨n, m, ps, xs, v2, v4, rfl, b2, b4, n1, n60, hm, hW, hg, q⟩
theorem d_says {ta tb : TE} {a b : Bool} (h1 : EvD ta σ H (.bool a)) (h2 : EvD tb σ H (.bool b)) : EvD (tCall (spF false RSays) [] E (tCons ta (tCons tb tNil))) σ H (.bool (decide (a = b))) := d_call (da_cons h1 (da_cons h2 da_nil)) (use_spF ⟨a, b, rfl, rfl⟩)
/-- new lists of lists -/
theorem d_lcNew {α : Type} {wi : TI} {g : TG} {te : TE} {tt : TT} {vs : List Nat} {l : List α} {emb : α → PyData} (f : α → List Int) (h : DW wi σ H (l.map emb)) (hz : l.length ≤ 1000000)
    (ht : ∀ a ∈ l, ∀ x H1, Ex H H1 → Dt H1 x (emb a) → Turn1 true g tt te vs σ H1 x true (.list (iL (f a)))) : EvR true (tLc wi g tt te vs) σ H (gG (l.map f)) := fun H1 e1 Q q => lc_new f h hz ht e1 fun p ps H2 e2 G => q _ H2 e2 G.dt fun _ => ⟨p, rfl, G.new p List.mem_cons_self⟩
/-- l + m of lists of lists -/
theorem rd_addG {g h : List (List Int)} (hz : g.length + h.length ≤ 1000000) : RD true rUAdd (gG g) (gG h) H (gG (g ++ h)) := by
  unfold gG
  have e : gL (g ++ h) = gL g ++ gL h := by unfold gL; rw [List.map_append]
  rw [e]
  exact rd_addL (by unfold gL; rw [List.length_map, List.length_map]; exact hz)
theorem gL_at {K : PySem.W.Frag} {gs : List (List Int)} {i : Int} (h0 : 0 ≤ i) (h1 : i < gs.length) : atI (gL gs) i = some (.list (iL (gs.getD i.toNat []))) := by
  have e : i = ((i.toNat : Nat) : Int) := by omega
  refine at_int e ?_
  unfold gL
  rw [List.getElem?_map, List.getElem?_eq_getElem (show i.toNat < gs.length by omega), List.getD_eq_getElem?_getD, List.getElem?_eq_getElem (show i.toNat < gs.length by omega)]
  rfl
end
def spLaw4 (K : PySem.W.Frag) : Sp := fun vs H Q _ => ∃ (a : Addr) (ns : List Int), vs = [.ref a] ∧ SqL K H a (ns.map V.int) ∧ (∀ z ∈ ns, Sz 1048577 z) ∧ ns.length ≤ 63 ∧ Kd false (.bool true) H Q
end SC

/-! SCZ: the law's end, with the script's bits. -/
namespace SC
open PySem PySem.Spec PyProof.Rows L2 Evl
theorem sz_of_bits {i : Int} {n : Nat} (h : Builtin.Int.intBits i ≤ n) : Sz n i := by
  unfold Builtin.Int.intBits at h
  unfold Sz
  split at h
  · rename_i q
    have e : i = 0 := by simpa using q
    subst e
    exact Nat.lt_of_lt_of_le (by decide : (0 : Int).natAbs < 1) Nat.one_le_two_pow
  · rename_i q
    have p : i.natAbs ≠ 0 := by simpa using q
    exact (Nat.log2_lt p).mp (by omega)
theorem walk_ofEB {l : PySem.W.OpenLaw} {n k : Nat} {q : Program} {loose : List Str} {XP : (Str → Option Value) → Heap → Prop} {YP : World → Heap → Prop} {d : DefRec} {CX : CXT} {x : Str}
    (hn : l.most = some n) (hn2 : n ≤ sizeLine) (hdf : d.params.defaults = []) (hr : Room k callerA)
    (F : ∀ (w : World) (mg : Str → Option Value) (fa : Addr) (h : Heap), YP w h → h.Ns mainGlobals mg → mg d.name = some (.ref fa) →
      ∃ (K : PySem.W.Frag) (fd : FuncData) (sp : Sp), K.In h ∧ (∀ (s : Shared) (u : Value), BindsTo s fd ⟨[u], []⟩ [(x, u)]) ∧
        (∀ (H : Hp) (a : Addr) (ns : List Int), ns.length ≤ n → (∀ z ∈ ns, Builtin.Int.intBits z ≤ 1048576) → Only H → SqL K H a (ns.map V.int) → sp [.ref a] H (fun v _ => v = .bl true) fun _ _ _ => False) ∧
        ∀ base : Heap, K.In base → base.Ns mainGlobals mg → FnOk l.prog w K mg base CX k fa fd [x] sp)
    (hCX : ∀ (H : Hp) (s : Shared) (e : Value) (s' : Shared), CX [] H s (fun _ _ _ => False) e s' → False) :
    PySem.W.WalkO q loose XP YP l.row.toRowW d [] (fun f vs => PySem.call f vs) := by
  refine Att.attach_callB hn hdf fun w s₀ s₁ mg mb fa o pm cd doc a vs ns G Y ho hd hcd hmg hobj hints hlen hbits hg => ?_
  obtain ⟨K, fd, sp, KX, hb, hsp, hF⟩ := F w mg fa _ Y G.T.g hmg
  exact law_call KX G.T.g G.T.b G.T.builtins G.T.nolimit hg hobj hints (Nat.le_trans hlen hn2) hr hF hb (fun H hO hS => hsp H a ns hlen hbits hO hS) fun H e s' => hCX H s₁ e s'
section
variable {P : Program} {w : World} {K : PySem.W.Frag} {mg : Str → Option Value} {base : Heap} {N ps : List Str} {k : Nat} {sp : Sp} {x : Str} {st : Stmt}
theorem LawD.of {f0 : Addr} {fd0 : FuncData} (F : FunD K x x (defArgs st) (defBody st) (defScope st) [] [] f0 fd0) (S : FnScope N ps (defScope st)) (len : ∀ vs H Q E, sp vs H Q E → vs.length = ps.length)
    (body : ∀ (f : Addr) (cdv : Value) (A : Around) (outer : List Env) (s : Shared) (H : Hp) (vs : List V) (Q : VK) (E : XK), Room k (A.deeper (envOfC x (defScope st) s.heap.objs.size f cdv)) → sp vs H Q E →
      ∃ t, PSs (cx0 CX0 P w K mg base N x st f cdv A outer s H E).nox (defBody st) t ∧ t { nx := fun _ H' => Q .non H', rt := Q } (start N vs) H) : FnOk P w K mg base CX0 (k + 1) f0 fd0 ps sp :=
  F.ok S len (fun cdv A outer s H vs Q E hr h => by
    obtain ⟨t, h1, h2⟩ := body f0 cdv A outer s H vs Q E hr h
    exact ⟨t, h1.nox, h2⟩)
theorem spLaw4_use {H : Hp} {a : Addr} {ns : List Int} (hl : ns.length ≤ 63) (hb : ∀ z ∈ ns, Builtin.Int.intBits z ≤ 1048576) (hS : SqL K H a (ns.map V.int)) : spLaw4 K [.ref a] H (fun v _ => v = .bl true) fun _ _ _ => False :=
  ⟨a, ns, rfl, hS, fun z hz => sz_of_bits (Nat.le_trans (hb z hz) (by decide)), hl, fun v H2 _ hd _ => hd.bl_inv⟩
end
end SC

/-! SCP: sets of distinct tuples of ints, as many as there may be. -/
namespace SC
open PySem PySem.Spec PyProof.Rows L2 Evl
/-! ### the round of 5 i + 1 below any power of two -/
def av : Nat → Nat
  | 0 => 0
  | b + 1 => 5 * av b + 1
theorem av_pow : ∀ b, 4 * av b + 1 = 5 ^ b
  | 0 => rfl
  | b + 1 => by
    have h := av_pow b
    rw [Nat.pow_succ, ← h]
    show 4 * (5 * av b + 1) + 1 = _
    omega
theorem av_add (b : Nat) : ∀ c, av (b + c) = av b + 5 ^ b * av c
  | 0 => by show av b = av b + 5 ^ b * 0; rw [Nat.mul_zero, Nat.add_zero]
  | c + 1 => by
    have h := av_pow b
    have ih := av_add b c
    show 5 * av (b + c) + 1 = av b + 5 ^ b * (5 * av c + 1)
    grind
theorem av_two : ∀ k, ∃ q, av (2 ^ k) = 2 ^ k * (2 * q + 1)
  | 0 => ⟨0, rfl⟩
  | k + 1 => by
    obtain ⟨q, h⟩ := av_two k
    have e : 2 ^ (k + 1) = 2 ^ k + 2 ^ k := by rw [Nat.pow_succ]; omega
    rw [e, av_add, ← av_pow (2 ^ k)]
    generalize av (2 ^ k) = a at h
    generalize 2 ^ k = N at h
    refine ⟨q + a + 2 * q * a, ?_⟩
    grind
theorem av_shift (b k : Nat) : ∃ s, av (b + 2 ^ k) = av b + 2 ^ k * (2 * s + 1) := by
  obtain ⟨q, h⟩ := av_two k
  have p := av_pow b
  rw [av_add, h, ← p]
  generalize av b = a
  generalize 2 ^ k = N
  refine ⟨q + 2 * a + 4 * a * q, ?_⟩
  grind
theorem av_cover : ∀ k j, j < 2 ^ k → ∃ b, b < 2 ^ k ∧ av b % 2 ^ k = j
  | 0, j, h => ⟨0, by decide, by
    have : j = 0 := by simpa using h
    rw [this]
    rfl⟩
  | k + 1, j, h => by
    have hN : 0 < 2 ^ k := Nat.two_pow_pos k
    obtain ⟨b, hb, e⟩ := av_cover k (j % 2 ^ k) (Nat.mod_lt _ hN)
    obtain ⟨s, es⟩ := av_shift b k
    rw [Nat.pow_succ] at h ⊢
    generalize hNe : 2 ^ k = N at *
    have hj : j = j % N + N * (j / N) := (Nat.mod_add_div j N).symm
    have hy : j / N < 2 := Nat.div_lt_of_lt_mul h
    by_cases c : av b / N % 2 = j / N
    · refine ⟨b, by omega, ?_⟩
      rw [Nat.mod_mul, e, c]
      exact hj.symm
    · refine ⟨b + N, by omega, ?_⟩
      rw [es, Nat.mod_mul, Nat.add_mul_mod_self_left, Nat.add_mul_div_left _ _ hN, e]
      have q : ∀ x y : Nat, y < 2 → x % 2 ≠ y → (x + (2 * s + 1)) % 2 = y := fun x y h1 h2 => by omega
      rw [q _ _ hy c]
      exact hj.symm
theorem lcg_av (m : Nat) : ∀ b, lcgN m b = av b % (m + 1)
  | 0 => (Nat.zero_mod _).symm
  | b + 1 => by
    show (lcgN m b * 5 + 1) % (m + 1) = (5 * av b + 1) % (m + 1)
    rw [lcg_av m b, Nat.mul_comm 5]
    simp [Nat.add_mod, Nat.mul_mod]
/-- the masks -/
def MOk (m : Nat) : Prop := ∃ k, 3 ≤ k ∧ k ≤ 13 ∧ m + 1 = 2 ^ k
theorem MOk.le {m : Nat} (h : MOk m) : m ≤ 8191 := by
  obtain ⟨k, h1, h2, h3⟩ := h
  have : 2 ^ k ≤ 2 ^ 13 := Nat.pow_le_pow_right (by decide) h2
  have e : (2 : Nat) ^ 13 = 8192 := by decide
  omega
theorem MOk.odd {m : Nat} (h : MOk m) : m % 2 = 1 := by
  obtain ⟨k, h1, h2, h3⟩ := h
  obtain ⟨k', rfl⟩ : ∃ k', k = k' + 1 := ⟨k - 1, by omega⟩
  rw [Nat.pow_succ] at h3
  omega
theorem round_hits {m : Nat} (hm : MOk m) {i j : Nat} (hi : i ≤ m) (hj : j ≤ m) : ∃ k, k ≤ m ∧ lcgI m i k = j := by
  obtain ⟨e, h1, h2, h3⟩ := hm
  obtain ⟨a, ha, ea⟩ := av_cover e i (by omega)
  obtain ⟨b, hb, eb⟩ := av_cover e j (by omega)
  have ei : i = lcgN m a := by rw [lcg_av, h3, ea]
  rw [ei]
  rcases Nat.lt_or_ge b a with c | c
  · refine ⟨b + 2 ^ e - a, by omega, ?_⟩
    obtain ⟨s, es⟩ := av_shift b e
    rw [lcgN_add, show a + (b + 2 ^ e - a) = b + 2 ^ e by omega, lcg_av, h3, es, Nat.add_mul_mod_self_left, eb]
  · refine ⟨b - a, by omega, ?_⟩
    rw [lcgN_add, show a + (b - a) = b by omega, lcg_av, h3, eb]
theorem starts_hit {m : Nat} (hm : MOk m) (h : Int) {j : Nat} (hj : j ≤ m) : ∃ n, n ≤ m + 12 ∧ runI m (SetTable.bits h) n = j := by
  obtain ⟨k, hk, e⟩ := round_hits hm (runI_le m (SetTable.bits h) 12) hj
  refine ⟨12 + k, by omega, ?_⟩
  rw [runI_tail (bits_lt h), e]
theorem way_in (m : Nat) (h : Int) (k : Nat) : way m h k ≤ m := by
  have b0 : SetTable.bits h % (m + 1) ≤ m := Nat.le_of_lt_succ (Nat.mod_lt _ (Nat.succ_pos m))
  have b1 := runEnd_bd b0
  have b2 := nth_in (m := m) k (runAt m (SetTable.bits h % (m + 1)) (SetTable.bits h)) (by
    show SetTable.bits h % (m + 1) + (SetTable.runEnd m (SetTable.bits h % (m + 1)) - SetTable.bits h % (m + 1)) ≤ m; omega)
  exact Nat.le_trans (Nat.le_add_right _ _) b2
/-- where the way meets what is free -/
theorem way_free {m : Nat} (hm : MOk m) (h : Int) {pl : List Nat} (hl : pl.length ≤ m) : ∃ K, K < 10 * SetTable.turns m ∧ way m h K ∉ pl ∧ ∀ k, k < K → way m h k ∈ pl := by
  obtain ⟨j, hj, hn⟩ := st_missing pl (m + 1) (Nat.lt_succ_of_le hl)
  obtain ⟨n, hn1, en⟩ := starts_hit hm h (Nat.le_of_lt_succ hj)
  obtain ⟨k, hk, ek⟩ := run_nth m (SetTable.bits h) n
  have wk : way m h k = j := by
    show (nth m (runAt m (SetTable.bits h % (m + 1)) (SetTable.bits h)) k).j = j
    rw [ek]
    exact en
  obtain ⟨K, k1, k2, k3⟩ := st_least (p := fun c => way m h c ∉ pl) k (by show way m h k ∉ pl; rw [wk]; exact hn)
  exact ⟨K, by unfold SetTable.turns; omega, k2, fun c hc => Classical.byContradiction fun z => k3 c hc z⟩
/-! ### sizes of tables -/
theorem above_go (n : Nat) : ∀ f e, n < 2 ^ (e + f) → ∃ k, SetTable.sizeAbove.go n f (2 ^ e) = 2 ^ k ∧ e ≤ k ∧ n < 2 ^ k ∧ (k = e ∨ 2 ^ k ≤ 2 * n)
  | 0, e, h => ⟨e, rfl, Nat.le_refl _, h, .inl rfl⟩
  | f + 1, e, h => by
    by_cases c : 2 ^ e ≤ n
    · obtain ⟨k, h1, h2, h3, h4⟩ := above_go n f (e + 1) (by rw [Nat.add_right_comm]; exact h)
      refine ⟨k, ?_, by omega, h3, .inr ?_⟩
      · show (if 2 ^ e ≤ n then SetTable.sizeAbove.go n f (2 ^ e * 2) else 2 ^ e) = _
        rw [if_pos c, ← Nat.pow_succ]
        exact h1
      · rcases h4 with h4 | h4
        · rw [h4, Nat.pow_succ]; omega
        · exact h4
    · refine ⟨e, ?_, Nat.le_refl _, by omega, .inl rfl⟩
      show (if 2 ^ e ≤ n then SetTable.sizeAbove.go n f (2 ^ e * 2) else 2 ^ e) = _
      rw [if_neg c]
theorem grown_ok {u : Nat} (h0 : 2 ≤ u) (h : u ≤ 2000) : ∃ M, SetTable.sizeAbove (SetTable.grown u) - 1 = M ∧ MOk M ∧ SetTable.sizeAbove (SetTable.grown u) ≤ 8192 ∧ u ≤ M ∧ u * 5 < M * 3 := by
  have eg : SetTable.grown u = u * 4 := by
    unfold SetTable.grown
    rw [if_neg (by omega)]
  rw [eg]
  have lt14 : u * 4 < 2 ^ 14 := by
    have : (2 : Nat) ^ 14 = 16384 := by decide
    omega
  obtain ⟨k, h1, h2, h3, h4⟩ := above_go (u * 4) 64 3 (Nat.lt_of_lt_of_le lt14 (Nat.pow_le_pow_right (by decide) (by decide)))
  have hz : SetTable.sizeAbove (u * 4) = 2 ^ k := h1
  have e13 : (2 : Nat) ^ 13 = 8192 := by decide
  have e14 : (2 : Nat) ^ 14 = 16384 := by decide
  have hk : k ≤ 13 := by
    refine Classical.byContradiction fun z => ?_
    have : 2 ^ 14 ≤ 2 ^ k := Nat.pow_le_pow_right (by decide) (by omega)
    rcases h4 with h4 | h4 <;> omega
  have : 2 ^ k ≤ 2 ^ 13 := Nat.pow_le_pow_right (by decide) hk
  rw [hz]
  exact ⟨2 ^ k - 1, rfl, ⟨k, h2, hk, by omega⟩, by omega, by omega, by omega⟩
/-! ### a table laid anew -/
structure Ow (m n : Nat) (ow : Array (Option Nat)) : Prop where
  sz : ow.size = m + 1
  al : ∀ k, k < n → ∃ j, j ≤ m ∧ oAt ow j = some k
  ps : ∃ ps : List Nat, ps.length = n ∧ ∀ j, j ≤ m → oAt ow j ≠ none → j ∈ ps
theorem Ow.zero (m : Nat) : Ow m 0 (Array.replicate (m + 1) none) := ⟨by rw [Array.size_replicate], fun k h => absurd h (Nat.not_lt_zero k), [], rfl, fun j hj z => (z (oAt_init hj)).elim⟩
theorem Ow.next {m n : Nat} (hm : MOk m) {ow : Array (Option Nat)} (W : Ow m n ow) (hn : n ≤ m) (h : Int) : ∃ j, SetTable.layClean.free m ow (SetTable.turns m) (SetTable.bits h % (m + 1)) (SetTable.bits h) = some j ∧ Ow m (n + 1) (ow.setIfInBounds j (some n)) := by
  obtain ⟨ps, p1, p2⟩ := W.ps
  obtain ⟨j0, j1, j2⟩ := st_missing ps (m + 1) (by omega)
  have f0 : oAt ow j0 = none := Classical.byContradiction fun z => j2 (p2 j0 (Nat.le_of_lt_succ j1) z)
  obtain ⟨r, r1, r2⟩ := starts_hit hm h (Nat.le_of_lt_succ j1)
  have wr : way m h (off m (SetTable.bits h % (m + 1)) (SetTable.bits h) r) = j0 := by
    show (nth m (runAt m (SetTable.bits h % (m + 1)) (SetTable.bits h)) (off m (SetTable.bits h % (m + 1)) (SetTable.bits h) r)).j = j0
    rw [nth_off, itL_run]
    exact r2
  obtain ⟨K, k1, k2, k3⟩ := st_least (p := fun c => oAt ow (way m h c) = none) _ (by show oAt ow (way m h (off m (SetTable.bits h % (m + 1)) (SetTable.bits h) r)) = none; rw [wr]; exact f0)
  have hfree : SetTable.layClean.free m ow (SetTable.turns m) (SetTable.bits h % (m + 1)) (SetTable.bits h) = some (way m h K) := by
    refine free_spec m ow (SetTable.turns m) r _ _ K (by unfold SetTable.turns; omega) k1 (fun c hc => ?_) ?_
    · cases z : oAt ow (nth m (runAt m (SetTable.bits h % (m + 1)) (SetTable.bits h)) c).j with
      | none => exact (k3 c hc z).elim
      | some _ => rfl
    · show (oAt ow (way m h K)).isNone = true
      rw [show oAt ow (way m h K) = none from k2]
      rfl
  have jm := way_in m h K
  generalize way m h K = j at k2 hfree jm
  have self := oAt_set_self (owner := ow) (some n) (by rw [W.sz]; exact Nat.lt_succ_of_le jm)
  refine ⟨j, hfree, by rw [Array.size_setIfInBounds, W.sz], fun k hk => ?_, j :: ps, by rw [List.length_cons, p1], fun i hi hne => ?_⟩
  · rcases Nat.lt_or_ge k n with c | c
    · obtain ⟨i, i1, i2⟩ := W.al k c
      refine ⟨i, i1, ?_⟩
      rw [oAt_set_ne _ fun z => by rw [z, k2] at i2; cases i2]
      exact i2
    · have ek : k = n := by omega
      rw [ek]
      exact ⟨j, jm, self⟩
  · by_cases c : i = j
    · rw [c]; exact List.mem_cons_self
    · rw [oAt_set_ne _ c] at hne
      exact List.mem_cons_of_mem _ (p2 i hi hne)
theorem Ow.fold {m : Nat} (hm : MOk m) : ∀ (l : List Int) (n : Nat) (ow : Array (Option Nat)), Ow m n ow → n + l.length ≤ m → ∃ ow', l.foldl (stepF m) (some (ow, n)) = some (ow', n + l.length) ∧ Ow m (n + l.length) ow'
  | [], n, ow, W, _ => ⟨ow, rfl, W⟩
  | h :: l, n, ow, W, hn => by
    rw [List.length_cons] at hn
    obtain ⟨j, e, W1⟩ := W.next hm (by omega) h
    obtain ⟨ow2, f, W2⟩ := Ow.fold hm l (n + 1) _ W1 (by omega)
    have el : n + (h :: l).length = n + 1 + l.length := by rw [List.length_cons]; omega
    rw [el]
    refine ⟨ow2, ?_, W2⟩
    rw [List.foldl_cons, stepF_some e, f]
theorem laid_anew (t : SetTable) {hs : Array Int} {wanted M : Nat} (hw : SetTable.sizeAbove wanted - 1 = M) (hM : MOk M) (hn : hs.size ≤ M) :
    ∃ t' order, t.relaid hs wanted = some (t', order) ∧ order.toList.Perm (List.range hs.size) ∧ Ris t'.place.toList ∧ t'.place.size = hs.size ∧ t'.dummies = #[] ∧ t'.mask = M ∧ t'.led = t.led ∧ t'.plain = t.plain := by
  obtain ⟨ow, f, W⟩ := Ow.fold hM hs.toList 0 _ (Ow.zero M) (by rw [Nat.zero_add, Array.length_toList]; exact hn)
  rw [Nat.zero_add, Array.length_toList] at f W
  have hlay : SetTable.layClean M hs = some ow := by
    rw [layClean_eq, f]
    rfl
  have hr : t.relaid hs wanted = some (tabOf t M ow, ((liveOf M ow).map (·.2)).toArray) := by
    rw [relaid_eq, hw, hlay]
    rfl
  have rs := (ris_live (fun j => ow.getD j none) (List.range (M + 1)) (by unfold Ris; exact List.pairwise_lt_range)).1
  have rs1 : Ris ((liveOf M ow).map (·.1)) := rs
  have nd : ((liveOf M ow).map (·.1)).Nodup := rs1.imp fun h => Nat.ne_of_lt h
  have have_ : ∀ k, k < hs.size → k ∈ (liveOf M ow).map (·.2) := fun k hk => by
    obtain ⟨j, j1, j2⟩ := W.al k hk
    exact List.mem_map.mpr ⟨(j, k), (mem_live W.sz).2 ⟨j1, j2⟩, rfl⟩
  have len : (liveOf M ow).length = hs.size := by
    obtain ⟨ps, p1, p2⟩ := W.ps
    have up := nat_nodup_len ((liveOf M ow).map (·.1)) ps nd fun x hx => by
      obtain ⟨⟨y, k⟩, hq, rfl⟩ := List.mem_map.mp hx
      obtain ⟨b1, b2⟩ := (mem_live W.sz).1 hq
      exact p2 y b1 (by rw [b2]; exact fun z => nomatch z)
    have dn := nat_nodup_len (List.range hs.size) ((liveOf M ow).map (·.2)) List.nodup_range fun k hk => have_ k (List.mem_range.mp hk)
    rw [List.length_map, p1] at up
    rw [List.length_range, List.length_map] at dn
    omega
  refine ⟨_, _, hr, perm_range hs.size _ (by show ((liveOf M ow).map (·.2)).length = _; rw [List.length_map, len]) fun k hk => have_ k hk, rs1, ?_, rfl, rfl, rfl, rfl⟩
  show (((liveOf M ow).map (·.1)).toArray).size = hs.size
  rw [List.size_toArray, List.length_map, len]
/-! ### the set -/
structure DS (P : Program) (w : World) (h : Heap) (a : Addr) (L : List (Addr × List Int)) (es : Array (Int × Value)) (ep : Nat) (t : SetTable) : Prop where
  ob : ∃ o, h.get? a = some o ∧ o.ExactSet ∧ o.data = .set es ep t
  rows : es.toList = rowsOf P w L
  ris : Ris t.place.toList
  dm : t.dummies = #[]
  sz : t.place.size = L.length
  mo : MOk t.mask
  pl : t.plain = true
  ld : w.params.followText "set-order" = true ∨ t.led = true
  room : L.length * 5 < t.mask * 3
section
variable {P : Program} {w : World} {A : Around} {E : Value → Shared → Prop} {s : Shared} {a : Addr} {L : List (Addr × List Int)} {es : Array (Int × Value)} {ep : Nat} {t : SetTable}
theorem rows_len (h : es.toList = rowsOf P w L) : es.size = L.length := by
  have q := congrArg List.length h
  unfold rowsOf at q
  rwa [Array.length_toList, List.length_map] at q
theorem DS.fits {h : Heap} (D : DS P w h a L es ep t) : t.fits es.size = true := by
  have e1 := D.sz
  have e2 := rows_len D.rows
  have e3 := D.room
  unfold SetTable.fits SetTable.fill
  rw [D.dm, Bool.and_eq_true, beq_iff_eq, decide_eq_true_eq]
  exact ⟨by omega, by show t.place.size + 0 ≤ t.mask; omega⟩
theorem DS.row {h : Heap} (D : DS P w h a L es ep t) {i : Nat} {p : Addr × List Int} (e : L[i]? = some p) : es[i]? = some (thash P w p.2, Value.ref p.1) := by
  rw [← Array.getElem?_toList, D.rows]
  unfold rowsOf
  rw [List.getElem?_map, e]
  rfl
theorem nth_dm (m : Nat) : ∀ (n : Nat) (p : SetTable.Probe), p.dummy = none → (nth m p n).dummy = none
  | 0, _, h => h
  | n + 1, p, h => nth_dm m n _ (by unfold adv; split <;> exact h)
/-- the search for what isn't there -/
theorem DS.search (D : DS P w s.heap a L es ep t) {x : Addr} {k : List Int} (hx : IsT P w s.heap k x) (tup : ∀ p ∈ L, IsT P w s.heap p.2 p.1) (hn : k ∉ L.map (·.2)) (hu : A.units < cLine) {K : Nat} (hKf : K < 10 * SetTable.turns t.mask)
    (hK : way t.mask (thash P w k) K ∉ t.place.toList) (hKb : ∀ c, c < K → way t.mask (thash P w k) c ∈ t.place.toList) {Q : SetFound → Shared → Prop} (hq : Q (.free (way t.mask (thash P w k) K) false) s) :
    ∀ (f c : Nat) (st : Option SetTable.Probe), st.getD (t.probeStart (thash P w k)) = nth t.mask (runAt t.mask (SetTable.bits (thash P w k) % (t.mask + 1)) (SetTable.bits (thash P w k))) c → c ≤ K → K - c < f →
      wpAny (model P w) A (setSearchFrom a (.ref x) (thash P w k) true f st) Q E s
  | 0, c, st, _, _, hf => absurd hf (Nat.not_lt_zero _)
  | f + 1, c, st, hst, hc, hf => by
    obtain ⟨o, ho, hex, hd⟩ := D.ob
    generalize hP0 : runAt t.mask (SetTable.bits (thash P w k) % (t.mask + 1)) (SetTable.bits (thash P w k)) = P0 at hst
    have wy : ∀ q, way t.mask (thash P w k) q = (nth t.mask P0 q).j := fun q => by rw [← hP0]
    have sh : ∀ q, (nth t.mask (nth t.mask P0 c) q).j = way t.mask (thash P w k) (c + q) := fun q => by rw [← nth_add, wy]
    rw [setSearchFrom_succ]
    refine wpAny_bind (wpAny_setState_of ho hd D.fits ?_)
    dsimp only
    refine wp_if_neg (by unfold SetTable.gaveWay; rw [D.mo.odd]; decide) ?_
    try refine wpAny_bind (wpAny_pure ?_)
    have d0 : (nth t.mask P0 c).dummy = none := nth_dm t.mask c P0 (by rw [← hP0]; rfl)
    rcases go_spec t D.ris D.dm (fun i => (es[i]?.map (·.1)).getD 0) (thash P w k) (10 * SetTable.turns t.mask) (K - c) _ d0 (by omega) (fun q hq => by rw [sh]; exact hKb _ (by omega)) (by rw [sh, Nat.add_sub_cancel' hc]; exact hK) with
      ⟨q, i, hq1, hi, _, _, hpr⟩ | ⟨_, hpr⟩
    · have pr : t.probe (fun i => (es[i]?.map (·.1)).getD 0) (thash P w k) (st.getD (t.probeStart (thash P w k))) = some (.candidate (way t.mask (thash P w k) (c + q)) i (nth t.mask P0 (c + (q + 1)))) := by
        rw [hst, ← sh, nth_add t.mask c P0 (q + 1)]
        exact hpr
      rw [pr]
      dsimp only
      rw [sh] at hi
      have il : i < L.length := by
        have := (List.getElem?_eq_some_iff.mp hi).1
        rw [Array.length_toList, D.sz] at this
        exact this
      obtain ⟨p, hp⟩ : ∃ p, L[i]? = some p := ⟨_, List.getElem?_eq_getElem il⟩
      have pm := List.mem_of_getElem? hp
      have ne : p.2 ≠ k := fun z => hn (List.mem_map.mpr ⟨p, pm, z⟩)
      have go_on : wpAny (model P w) A (searchRest a (.ref x) (thash P w k) true f es t (way t.mask (thash P w k) (c + q)) i (nth t.mask P0 (c + (q + 1)))) Q E s := by
        unfold searchRest
        rw [D.row hp]
        dsimp only
        refine wpAny_bind (wpAny_holding (wpAny_eqBool_tuple hu (tup p pm) hx ?_))
        refine wpAny_bind (wpAny_setState_of ho hd D.fits ?_)
        dsimp only
        rw [decide_eq_false ne]
        refine wp_if_neg (by decide) ?_
        try refine wpAny_bind (wpAny_pure ?_)
        rw [sameMem]
        dsimp only
        have sl : t.slot (way t.mask (thash P w k) (c + q)) = .live i := slot_live D.ris hi
        simp only [if_true, sl, D.row hp]
        refine wpAny_bind (wpAny_isSame_ref_self (wpAny_bind (wpAny_pure ?_)))
        simp only [if_true]
        refine wp_if_neg (by decide) ?_
        exact D.search hx tup hn hu hKf hK hKb hq f (c + (q + 1)) _ (by rw [hP0]; rfl) (by omega) (by omega)
      by_cases hl : t.led = true
      · refine wp_if_neg (by rw [hl]; decide) ?_
        try refine wpAny_bind (wpAny_pure ?_)
        exact go_on
      · refine wp_if_pos (by rw [eq_false_of_ne_true hl]; rfl) ?_
        refine wpAny_bind (seen_tup hx (fun y hy => ?_) ?_)
        · obtain ⟨e, he, ee⟩ := List.mem_map.mp hy
          have he1 : e ∈ es ∧ e.1 = thash P w k := by simpa using he
          have he2 : e ∈ es.toList := by simpa using he1.1
          rw [D.rows] at he2
          obtain ⟨p2, hp2, e2⟩ := List.mem_map.mp he2
          exact ⟨p2.2, p2.1, by rw [← ee, ← e2], tup p2 hp2⟩
        · refine wp_if_neg (by decide) ?_
          try refine wpAny_bind (wpAny_pure ?_)
          exact go_on
    · have pr : t.probe (fun i => (es[i]?.map (·.1)).getD 0) (thash P w k) (st.getD (t.probeStart (thash P w k))) = some (.empty (way t.mask (thash P w k) K) none) := by
        have e := sh (K - c)
        rw [Nat.add_sub_cancel' hc] at e
        rw [hst, ← e]
        exact hpr
      rw [pr]
      dsimp only
      exact wpAny_pure hq
/-- the table laid anew -/
theorem relay_up {o : Obj} (ho : s.heap.get? a = some o) (hex : o.ExactSet) (hd : o.data = .set es ep t) (hrows : es.toList = rowsOf P w L) (hsz : t.place.size = L.length) (hdm : t.dummies = #[]) (hfl : L.length ≤ t.mask) (pl : t.plain = true)
    (ld : w.params.followText "set-order" = true ∨ t.led = true) {wanted M : Nat} (hw : SetTable.sizeAbove wanted - 1 = M) (hM : MOk M) (hw2 : SetTable.sizeAbove wanted ≤ 8192) (hn : L.length ≤ M) (hn2 : L.length * 5 < M * 3) {Q : Unit → Shared → Prop}
    (hQ : ∀ h' L' es' ep' t', Heap.SameBut a s.heap h' → DS P w h' a L' es' ep' t' → L'.Perm L → Q () { s with heap := h' }) : wpAny (model P w) A (setRelay a wanted) Q E s := by
  have el := rows_len hrows
  have fit : t.fits es.size = true := by
    unfold SetTable.fits SetTable.fill
    rw [hdm, Bool.and_eq_true, beq_iff_eq, decide_eq_true_eq]
    exact ⟨by omega, by show t.place.size + 0 ≤ t.mask; omega⟩
  obtain ⟨t', order, e, hp, r1, r2, r3, r4, r5, r6⟩ := laid_anew t (hs := es.map (·.1)) (wanted := wanted) hw hM (by rw [Array.size_map, el]; exact hn)
  rw [Array.size_map, el] at hp r2
  obtain ⟨L2, o1, o2, _⟩ := order_rows L es order hrows hp
  have hz2 := rows_len o1
  rw [o2.length_eq] at hz2
  rw [setRelay_eq]
  refine wpAny_bind (wpAny_setState_of ho hd fit ?_)
  dsimp only
  refine wp_if_neg (by rw [sizeLine_eq]; omega) ?_
  try refine wpAny_bind (wpAny_pure ?_)
  rw [e]
  dsimp only
  refine wpAny_bind ?_
  refine wp_if_neg (by rw [hz2, el]; simp) ?_
  try refine wpAny_bind (wpAny_pure ?_)
  refine wpAny_pure ?_
  dsimp only
  have sb : Heap.SameBut a s.heap (s.heap.update a (Obj.putSet (order.filterMap (es[·]?)) t')) := Heap.SameBut.update ..
  refine wpAny_storeSet_of ho hd (hQ _ L2 _ (ep + 1) t' sb ⟨⟨_, store_at ho hd, ⟨hex.1, hex.2.1, hex.2.2⟩, rfl⟩, o1, r1, r3, by rw [r2, o2.length_eq], by rw [r4]; exact hM, by rw [r6]; exact pl, by rw [r5]; exact ld, by rw [o2.length_eq, r4]; exact hn2⟩ o2) ?_
  rw [hz2, sizeLine_eq]
  have := hM.le
  omega
/-- one more -/
theorem DS.add (D : DS P w s.heap a L es ep t) {x : Addr} {k : List Int} (hx : IsT P w s.heap k x) (tup : ∀ p ∈ L, IsT P w s.heap p.2 p.1) (hn : k ∉ L.map (·.2)) (hu : A.units < cLine) (few : L.length < 2000) {Q : Bool → Shared → Prop}
    (hQ : ∀ b h' L' es' ep' t', Heap.SameBut a s.heap h' → DS P w h' a L' es' ep' t' → L'.Perm ((x, k) :: L) → Q b { s with heap := h' }) : wpAny (model P w) A (setAddHashed a (.ref x) (thash P w k)) Q E s := by
  obtain ⟨o, ho, hex, hd⟩ := D.ob
  have el := rows_len D.rows
  have room := D.room
  have mle := D.mo.le
  obtain ⟨K, K1, K2, K3⟩ := way_free D.mo (thash P w k) (pl := t.place.toList) (by rw [Array.length_toList, D.sz]; omega)
  unfold setAddHashed
  refine wpAny_holding ?_
  rw [show (100000 : Nat) = 99999 + 1 from rfl, setAddHashedIn_succ]
  refine wpAny_bind (wpAny_setState_of ho hd D.fits ?_)
  dsimp only
  refine wp_if_neg (by simp [byScan, Value.scannable]) ?_
  try refine wpAny_bind (wpAny_pure ?_)
  refine wpAny_bind ?_
  unfold setSearch
  refine D.search hx tup hn hu K1 K2 K3 ?_ 100000 0 none rfl (Nat.zero_le _) (by unfold SetTable.turns at K1; omega)
  dsimp only
  refine wpAny_bind (wpAny_setState_of ho hd D.fits ?_)
  dsimp only
  generalize way t.mask (thash P w k) K = j at K2
  have np : t.place[SetTable.below t.place j]? ≠ some j := fun z => K2 (List.mem_of_getElem? (by rw [Array.getElem?_toList]; exact z))
  have ple : SetTable.below t.place j ≤ t.place.toList.length := by
    have := (below_cut D.ris j).1
    rw [Array.length_toList]
    exact this
  have a1 : Ris (t.put j).1.place.toList := ris_insert D.ris np
  have a2 : (t.put j).1.dummies = #[] := put_dm D.dm j
  have a3 : (t.put j).1.place.size = L.length + 1 := by rw [← Array.length_toList, put_place, len_ins _ ple, Array.length_toList, D.sz]
  have a4 : (t.put j).1.mask = t.mask := rfl
  have a5 : (t.put j).1.led = t.led := rfl
  have a6 : (t.put j).1.plain = true := D.pl
  have a7 : (t.put j).2 = SetTable.below t.place j := rfl
  have a8 : (t.put j).1.fill = L.length + 1 := by
    show (t.put j).1.place.size + (t.put j).1.dummies.size = _
    rw [a3, a2]
    rfl
  generalize t.put j = pt at a1 a2 a3 a4 a5 a6 a7 a8 ⊢
  obtain ⟨t1, p⟩ := pt
  dsimp only at a1 a2 a3 a4 a5 a6 a7 a8 ⊢
  first
    | (refine wpAny_bind ?_; refine wp_if_pos a6 ?_; refine hashBy_tup hx ?_)
    | refine wp_if_pos a6 (wpAny_bind (hashBy_tup hx ?_))
  simp only [if_true]
  have rw1 : (SetTable.insertAt es p (thash P w k, Value.ref x)).toList = rowsOf P w (L.take p ++ (x, k) :: L.drop p) := by rw [SetTable.toList_insertAt, rows_put, D.rows]
  have pm := put_perm L p (x, k)
  generalize SetTable.insertAt es p (thash P w k, Value.ref x) = es1 at rw1 ⊢
  generalize L.take p ++ (x, k) :: L.drop p = L1 at rw1 pm
  have l1 : L1.length = L.length + 1 := pm.length_eq
  have z1 := rows_len rw1
  refine wpAny_bind (wpAny_storeSet_of ho hd ?_ (by rw [z1, l1, sizeLine_eq]; omega))
  have sb : Heap.SameBut a s.heap (s.heap.update a (Obj.putSet es1 t1)) := Heap.SameBut.update ..
  have ho1 := store_at (es' := es1) (t' := t1) ho hd
  generalize s.heap.update a (Obj.putSet es1 t1) = h1 at sb ho1 ⊢
  have ld1 : w.params.followText "set-order" = true ∨ t1.led = true := by rw [a5]; exact D.ld
  by_cases hf : t1.tooFull = true
  · first
      | (refine wpAny_bind ?_; refine wp_if_pos (by simp [hf]) ?_)
      | (refine wp_if_pos (by simp [hf]) ?_; refine wpAny_bind ?_)
    rw [el]
    have big : 3 ≤ L.length := by
      have h := hf
      unfold SetTable.tooFull at h
      rw [decide_eq_true_eq, a8, a4] at h
      obtain ⟨e, e1, e2, e3⟩ := D.mo
      have : 2 ^ 3 ≤ 2 ^ e := Nat.pow_le_pow_right (by decide) e1
      omega
    obtain ⟨M, m1, m2, m3, m4, m5⟩ := grown_ok (u := L.length + 1) (by omega) (by omega)
    refine relay_up (s := { s with heap := h1 }) ho1 ⟨hex.1, hex.2.1, hex.2.2⟩ rfl rw1 (by rw [a3, l1]) a2 (by rw [l1, a4]; omega) a6 ld1 m1 m2 m3 (by rw [l1]; exact m4) (by rw [l1]; exact m5) fun h2 L2 es2 ep2 t2 sb2 D2 pm2 => ?_
    exact wpAny_pure (hQ true h2 L2 es2 ep2 t2 (sb.trans sb2) D2 (pm2.trans pm))
  · first
      | refine wp_if_neg (by simp [hf]) ?_
      | (refine wpAny_bind ?_; refine wp_if_neg (by simp [hf]) ?_; refine wpAny_pure ?_)
    refine wpAny_pure (hQ true h1 L1 es1 (ep + 1) t1 sb ⟨⟨_, ho1, ⟨hex.1, hex.2.1, hex.2.2⟩, rfl⟩, rw1, a1, a2, by rw [a3, l1], by rw [a4]; exact D.mo, a6, ld1, ?_⟩ pm)
    have h := hf
    unfold SetTable.tooFull at h
    rw [decide_eq_true_eq, a8] at h
    rw [l1]
    omega
theorem DS.mono {h h' : Heap} (D : DS P w h a L es ep t) (k : ∀ o, h.get? a = some o → h'.get? a = some o) : DS P w h' a L es ep t := by
  obtain ⟨o, ho, r⟩ := D.ob
  exact ⟨⟨o, k o ho, r⟩, D.rows, D.ris, D.dm, D.sz, D.mo, D.pl, D.ld, D.room⟩
theorem DS.new {h : Heap} (ho : h.get? a = some (newSetO w)) : DS P w h a [] #[] 0 (.fresh 0 0 (!w.params.followText "set-order")) where
  ob := ⟨_, ho, ⟨rfl, rfl, rfl⟩, rfl⟩
  rows := rfl
  ris := List.Pairwise.nil
  dm := rfl
  sz := rfl
  mo := ⟨3, by decide, by decide, rfl⟩
  pl := rfl
  ld := by
    show _ ∨ (!w.params.followText "set-order") = true
    cases w.params.followText "set-order"
    · exact .inr rfl
    · exact .inl rfl
  room := by show 0 * 5 < 7 * 3; decide
/-- what the first i items brought -/
theorem perm_more {ks L L' : List (Addr × List Int)} {i : Nat} {x : Addr × List Int} (g : L.Perm (ks.take i)) (h : ks[i]? = some x) (pm : L'.Perm (x :: L)) : L'.Perm (ks.take (i + 1)) := by
  rw [take_at h]
  exact pm.trans ((g.cons x).trans (List.perm_append_singleton x _).symm)
theorem dup_no {ks : List (Addr × List Int)} (nd : (ks.map (·.2)).Nodup) {i : Nat} {x : Addr × List Int} (h : ks[i]? = some x) : x.2 ∉ (ks.take i).map (·.2) := fun z => by
  have e : ks.take (i + 1) = ks.take i ++ [x] := take_at h
  have q : ((ks.take (i + 1)).map (·.2)).Nodup := nd.sublist ((List.take_sublist (i + 1) ks).map _)
  rw [e, List.map_append] at q
  exact (List.nodup_append.mp q).2.2 _ z _ (List.mem_singleton.mpr rfl) rfl
/-- the loop of set.update -/
theorem update_loop {I : Addr} {fp wr : List Addr} {G : Array GenState → Array GenState → Prop} {n : Nat} {Pv : Nat → Value → Prop} {St : Nat → Shared → Prop} {R : Result → Shared → Prop}
    (W : WalksS P w A.in1 I fp wr G n Pv St) (S : Addr) (hSf : S ∉ fp) (ks : List (Addr × List Int)) (hn : n = ks.length) (few : ks.length < 2000) (nd : (ks.map (·.2)).Nodup) (hval : ∀ i v, Pv i v → ∃ p, ks[i]? = some p ∧ v = .ref p.1)
    (h0 : Heap) (hk : ∀ p ∈ ks, IsT P w h0 p.2 p.1) (hS0 : h0.get? S = none) (hw0 : ∀ b ∈ wr, h0.get? b = none) (hu : A.in1.units < cLine) :
    ∀ (k i : Nat) (s : Shared), n - i = k → i ≤ n → St i s → (∀ b o, h0.get? b = some o → s.heap.get? b = some o) → (∃ L es ep t, DS P w s.heap S L es ep t ∧ L.Perm (ks.take i)) →
      (∀ s' L es ep t, Moved (S :: wr) G s s' → DS P w s'.heap S L es ep t → L.Perm ks → (∀ b o, h0.get? b = some o → s'.heap.get? b = some o) → R (.ok (.ret .none)) s') →
      codeAny (model P w) A (.builtin "set.update.loop" ⟨[.ref S, .ref I], []⟩) R s := by
  have nSw : S ∉ wr := fun h => hSf (W.sub _ h)
  have up : ∀ b ∈ wr, b ∈ S :: wr := fun b hb => List.mem_cons_of_mem _ hb
  have old : ∀ {s s' : Shared}, Moved wr G s s' → (∀ b o, h0.get? b = some o → s.heap.get? b = some o) → ∀ b o, h0.get? b = some o → s'.heap.get? b = some o := fun hm hp b o e =>
    hm.heap b o (fun hb => by rw [hw0 b hb] at e; cases e) (hp b o e)
  intro k
  induction k with
  | zero =>
    intro i s ek hi hst hp ⟨L, es, ep, t, D, pm⟩ hR
    obtain rfl : i = n := by omega
    refine codeAny_builtin F.entry_set_update_loop ?_
    rw [Around.under_plainId F.plain_set_update_loop _]
    show wpAny _ A.in1 (pyNext (.ref I) >>= _) _ _ s
    refine wpAny_bind (W.done s _ _ hst fun s' hm => ?_)
    show wpAny _ A.in1 (ret Value.none) _ _ s'
    rw [hn, List.take_length] at pm
    exact wpAny_pure (hR s' L es ep t (hm.mono up) (D.mono fun o e => hm.heap S o nSw e) pm (old hm hp))
  | succ k ih =>
    intro i s ek hi hst hp ⟨L, es, ep, t, D, pm⟩ hR
    have lt : i < n := by omega
    refine codeAny_builtin F.entry_set_update_loop ?_
    rw [Around.under_plainId F.plain_set_update_loop _]
    show wpAny _ A.in1 (pyNext (.ref I) >>= _) _ _ s
    refine wpAny_bind (W.item i s _ _ lt hst fun v s' hP hst' hm => ?_)
    obtain ⟨p, ep2, rfl⟩ := hval i v hP
    have hp' := old hm hp
    have sub : ∀ q ∈ L, q ∈ ks := fun q hq => List.mem_of_mem_take (pm.mem_iff.mp hq)
    have D' : DS P w s'.heap S L es ep t := D.mono fun o e => hm.heap S o nSw e
    have hx : IsT P w s'.heap p.2 p.1 := isT_keep (hk p (List.mem_of_getElem? ep2)) hp'
    have Ll : L.length ≤ i := by rw [pm.length_eq, List.length_take]; omega
    show wpAny _ A.in1 (holding [Value.ref p.1] (setAdd S (.ref p.1)) >>= _) _ _ s'
    refine wpAny_bind (wpAny_holding ?_)
    unfold setAdd
    refine wpAny_holding ?_
    refine wpAny_bind (wpAny_pyHash_tuple hu hx ?_)
    refine DS.add (s := { s' with toks := s'.toks + (p.2.length + 1) }) D' hx (fun q hq => isT_keep (hk q (sub q hq)) hp') (fun z => dup_no nd ep2 ((pm.map (·.2)).mem_iff.mp z)) hu (by omega) fun b h' L' es' ep' t' sb D2 pm2 => ?_
    have hp2 : ∀ b o, h0.get? b = some o → h'.get? b = some o := fun b o e => (sb.2 b (fun z => by rw [z, hS0] at e; cases e)).trans (hp' b o e)
    refine wpAny_pure ⟨plainId_quiet F.plain_set_update_loop _, ih (i + 1) _ (by omega) lt (W.frame _ s' _ _ hst' (Nat.le_add_right _ _) fun b hb o e => ?_) hp2 ⟨L', es', ep', t', D2, perm_more pm ep2 pm2⟩ fun s'' L2 es2 ep3 t2 hm2 D3 pm3 hp3 => ?_⟩
    · rw [sb.2 b (fun h : b = S => hSf (by rw [← h]; exact hb))]; exact e
    · refine hR s'' L2 es2 ep3 t2 (Moved.trans W.gtrans ((hm.mono up).then_heap (Nat.le_add_right _ _) fun b o hb e => ?_) hm2) D3 pm3 hp3
      rw [sb.2 b (fun h : b = S => hb (by rw [h]; exact List.mem_cons_self))]; exact e
/-- a set, by its number of items -/
def LenS (w : World) (h : Heap) (a : Addr) (n : Nat) : Prop := ∃ o es ep t, h.get? a = some o ∧ o.ExactSet ∧ o.data = .set es ep t ∧ t.fits es.size = true ∧ es.size = n ∧ n < 2000
theorem set_of_tups {l : Addr} {items : Array Value} (ks : List (Addr × List Int)) {Q : Value → Shared → Prop} (hh : A.handled = none) (hl : s.heap.IsList l items) (hit : items.toList = ks.map fun p => Value.ref p.1)
    (hk : ∀ p ∈ ks, IsT P w s.heap p.2 p.1) (few : ks.length < 2000) (nd : (ks.map (·.2)).Nodup) (hu : A.units + 64 < cLine)
    (h : ∀ (h' : Heap) (tk : Nat), LenS w h' s.heap.objs.size ks.length → (∀ b o, s.heap.get? b = some o → h'.get? b = some o) → Q (.ref s.heap.objs.size) { s with heap := h', toks := tk }) :
    wpAny (model P w) A (call (.type "set") [.ref l]) Q E s := by
  have hsz : items.size = ks.length := by
    have q := congrArg List.length hit
    rw [Array.length_toList, List.length_map] at q
    exact q
  refine set_of_list (fun h' => LenS w h' s.heap.objs.size ks.length) hh hl ?_ fun h' tk r kp => h h' tk r kp
  intro A' I s1 R hh' un eI ll hS hI hL g1 g2 g3 kp fin
  have hlI : l ≠ I := Nat.ne_of_lt (by rw [eI]; exact Nat.lt_succ_of_lt ll)
  have hSI : s.heap.objs.size ≠ I := Nat.ne_of_lt (by rw [eI]; exact Nat.lt_succ_self _)
  have hSl : s.heap.objs.size ≠ l := Nat.ne_of_gt ll
  have hm : s.heap.objs.size ∉ [I, l] := by
    simp only [List.mem_cons, List.not_mem_nil, or_false, not_or]
    exact ⟨hSI, hSl⟩
  have hval : ∀ (i : Nat) (v : Value), items[i]? = some v → ∃ p, ks[i]? = some p ∧ v = .ref p.1 := fun i v hv => by
    have q : items.toList[i]? = some v := by rw [Array.getElem?_toList]; exact hv
    rw [hit, List.getElem?_map] at q
    cases hq : ks[i]? with
    | none => rw [hq] at q; cases q
    | some p =>
      rw [hq] at q
      exact ⟨p, rfl, (Option.some.inj q).symm⟩
  have free : ∀ b, s.heap.objs.size ≤ b → s.heap.get? b = none := fun b hb => by
    cases q : s.heap.get? b with
    | none => rfl
    | some o => exact absurd (Nat.lt_of_lt_of_le (Heap.lt_size q) hb) (Nat.lt_irrefl _)
  refine update_loop ((Walks.list (A := A'.in1) (by simp [hh']) I l hlI items).toS) s.heap.objs.size hm ks hsz few nd hval s.heap hk (free _ (Nat.le_refl _)) (fun b hb => free b (by
    rw [List.mem_singleton.mp hb, eI]
    exact Nat.le_succ _)) (by show A'.units + 1 < cLine; omega) (items.size - 0) 0 _ (by omega) (Nat.zero_le _) ⟨hI, hL⟩ kp ⟨[], #[], 0, _, DS.new hS, by rw [List.take_zero]⟩ ?_
  intro s' L es ep t mv D pm kp'
  obtain ⟨o, ho, hex, hd⟩ := D.ob
  exact fin s' ⟨o, es, ep, t, ho, hex, hd, D.fits, by rw [rows_len D.rows, pm.length_eq], few⟩ (fun b o lt e => kp' b o e) (mv.gens.trans g1) (mv.drawn.trans g2) (mv.os.trans g3)
def LenO (w : World) (a : Addr) (n : Nat) : HO := .ext fun h => LenS w h a n
theorem lenO_new {H : Hp} {h : Heap} {a : Addr} {n : Nat} (R : LenS w h a n) : ObjOk P w H h a (LenO w a n) := by
  have ⟨o, es, ep, t, ho, r⟩ := R
  refine ⟨R, ⟨o, ho⟩, fun h1 h2 p k => ?_⟩
  have ⟨o', es', ep', t', ho', r'⟩ : LenS w h1 a n := p
  exact ⟨o', es', ep', t', k o' ho', r'⟩
end
section
variable {X : Cx} {K : PySem.W.Frag} {w : World}
/-- set(l), l a list of distinct tuples of ints -/
def rSetP (K : PySem.W.Frag) (w : World) : List V → Hp → VK → Prop := fun xs H Q => ∃ (l : Addr) (ks : List (Addr × List Int)), xs = [V.ref l] ∧ SqL K H l (ks.map fun p => V.ref p.1) ∧ (∀ p ∈ ks, SqT K H p.1 (p.2.map V.int)) ∧ ks.length < 2000 ∧ (ks.map (·.2)).Nodup ∧
  ∀ a, H a = none → Q (.ref a) (upd H a (LenO w a ks.length))
theorem cr_setP (e1 : X.K = K) (e2 : X.w = w) (hc : X.calm = true) (hu : X.A.units + 64 < cLine) : CallR X (.type "set") (rSetP K w) := by
  subst e1 e2
  intro pins s σ H xs us Q I r h
  obtain ⟨l, ks, rfl, hl, hk, hf, nd, q⟩ := h
  rw [Vals.ref1 r]
  obtain ⟨its, rv, pl, hz⟩ := I.list hl
  have hn : H s.heap.objs.size = none := I.hok.fresh (Nat.le_refl _)
  refine set_of_tups (P := X.prog) (w := X.w) ks (I.ok.hd hc) pl.isList (by simpa using refs_of_vals rv) (fun p hp => I.isT (hk p hp)) hf nd hu fun h' tk R k => ?_
  exact ⟨.ref s.heap.objs.size, upd H s.heap.objs.size (LenO X.w s.heap.objs.size ks.length), I.laid (t' := tk) k (Nat.le_refl _) (lenO_new R), rfl, q _ hn⟩
def rLenP (w : World) : List V → Hp → VK → Prop := fun xs H Q => ∃ (a : Addr) (n : Nat), xs = [V.ref a] ∧ H a = some (LenO w a n) ∧ Q (.int n) H
theorem call_lenP (e2 : X.w = w) : CallR X (.builtin "len") (rLenP w) := by
  subst e2
  intro pins s σ H xs us Q I r h
  obtain ⟨a, n, rfl, ha, q⟩ := h
  rw [Vals.ref1 r]
  obtain ⟨o, es, ep, t, ho, hx, hd, hf, hn, hb⟩ : LenS X.w s.heap a n := (I.hok a _ ha).1
  exact call_len_set ho hx hd hf (by omega) ⟨.int n, H, I.tok _, ⟨_, by rw [hn]⟩, q⟩
/-- len(set(l)) -/
theorem pairs_ks {H : Hp} : ∀ {xs : List V} {ps : List (Int × Int)}, DtAll H xs (pL ps) → ∃ ks : List (Addr × List Int), xs = ks.map (fun p => V.ref p.1) ∧ ks.map (·.2) = ps.map (fun p => [p.1, p.2]) ∧ ∀ p ∈ ks, SqT K H p.1 (p.2.map V.int)
  | _, [], h => by cases h; exact ⟨[], rfl, rfl, fun p h => nomatch h⟩
  | _, p :: r, h => by
    cases h with
    | cons a b =>
      obtain ⟨c, ys, rfl, hc, hy⟩ := Dt.tup_inv (show Dt _ _ (.tuple [.int p.1, .int p.2]) from a)
      obtain ⟨ks, e1, e2, e3⟩ := pairs_ks b
      obtain ⟨u1, u2, rfl, q1, q2⟩ := hy.two
      cases q1.int_inv
      cases q2.int_inv
      exact ⟨(c, [p.1, p.2]) :: ks, by rw [e1]; rfl, by rw [List.map_cons, e2]; rfl, fun z hz => by
        rcases List.mem_cons.mp hz with e | e
        · rw [e]; exact st_of hc
        · exact e3 z e⟩
theorem pairs_nd {ps : List (Int × Int)} (h : ps.Nodup) : (ps.map fun p => [p.1, p.2]).Nodup := by
  refine List.Pairwise.map _ (fun a b ne => ?_) h
  intro e
  obtain ⟨a1, a2⟩ := a
  obtain ⟨b1, b2⟩ := b
  simp only [List.cons.injEq, and_true] at e
  exact ne (by rw [e.1, e.2])
theorem d_lenSetP {σ : L2.St} {H : Hp} {te : TE} {ps : List (Int × Int)} (h : EvD te σ H (.list (pL ps))) (hz : ps.length < 2000) (nd : ps.Nodup) : EvD (tCB (rLenP w) (tCons (tCB (rSetP K w) (tCons te tNil)) tNil)) σ H (.int (ps.length : Nat)) := fun H1 e1 Q q =>
  h H1 e1 _ fun v H2 e2 hv _ => by
    obtain ⟨l, xs, rfl, hl, hx⟩ := hv.lst_inv
    obtain ⟨ks, rfl, k2, k3⟩ := pairs_ks (K := K) hx
    have len : ks.length = ps.length := by
      have := congrArg List.length k2
      rwa [List.length_map, List.length_map] at this
    refine ⟨l, ks, rfl, sq_of hl, k3, by omega, by rw [k2]; exact pairs_nd nd, fun a ha => ⟨a, ks.length, rfl, upd_same, ?_⟩⟩
    rw [len]
    exact q _ _ (e2.trans (Ex.new ha)) (.int _) Fr.no
end
end SC

/-! SCF: what the program's doors compute. -/
namespace SC
open PySem PySem.Spec PyProof.Rows L2 Evl
section
variable {K : PySem.W.Frag} {σ : L2.St} {H : Hp} {ta tb tc td te tl : TE} {dx dy dz dw : PyData} {r r' r'' : R2}
theorem d_chain3 {a b c : Bool} (ha : EvD ta σ H dx) (hb : EvD tb σ H dy) (hr : RD false r dx dy H (.bool a)) (hc : a = true → EvD tc σ H dz) (hr' : a = true → RD false r' dy dz H (.bool b)) (hd : a = true → b = true → EvD td σ H dw) (hr'' : a = true → b = true → RD false r'' dz dw H (.bool c)) :
    EvD (tChain3 r r' r'' ta tb tc td) σ H (.bool (a && (b && c))) := fun H1 e1 Q q =>
  ha H1 e1 _ fun u H2 e2 hu _ => hb H2 (e1.trans e2) _ fun v H3 e3 hv _ => hr u v H3 ((e1.trans e2).trans e3) (hu.ex e3) hv _ fun z H4 e4 hz _ => ⟨a, hz.bl_inv, by
    have e14 := ((e1.trans e2).trans e3).trans e4
    cases a with
    | false => exact q (.bl false) H4 ((e2.trans e3).trans e4) (.bl false) Fr.no
    | true =>
      refine hc rfl H4 e14 _ fun w H5 e5 hw _ => hr' rfl v w H5 (e14.trans e5) ((hv.ex e4).ex e5) hw _ fun z2 H6 e6 hz2 _ => ⟨b, hz2.bl_inv, ?_⟩
      have e16 := (e14.trans e5).trans e6
      have e26 := (((e2.trans e3).trans e4).trans e5).trans e6
      cases b with
      | false => exact q (.bl false) H6 e26 (.bl false) Fr.no
      | true => exact hd rfl rfl H6 e16 _ fun w2 H7 e7 hw2 _ => hr'' rfl rfl w w2 H7 (e16.trans e7) ((hw.ex e6).ex e7) hw2 _ fun z3 H8 e8 hz3 f3 => q z3 H8 ((e26.trans e7).trans e8) hz3 Fr.no⟩
theorem RD.is {n : Bool} {d d' : PyData} (h : RD n r dx dy H d) (e : d = d') : RD n r dx dy H d' := e ▸ h
/-- k not in (i, j) -/
theorem eqV_int (i k : Int) : eqV (.int i) (.int k) = decide (i = k) := by
  by_cases h : i = k
  · subst h
    simp [eqV]
  · rw [decide_eq_false h]
    simp [eqV, h]
theorem rd_notIn2 {i j k : Int} : RD false (rUNotIn K) (.int k) (.tuple [.int i, .int j]) H (.bool (!(decide (i = k) || decide (j = k)))) := fun u v H1 _ hu hv Q q => by
  cases hu.int_inv
  obtain ⟨a, xs, rfl, ha, hx⟩ := hv.tup_inv
  obtain ⟨v1, v2, rfl, h1, h2⟩ := hx.two
  cases h1.int_inv
  cases h2.int_inv
  refine .inr (.inl ⟨a, _, rfl, .inr (st_of ha), rfl, rfl, ?_⟩)
  have e : inV (.int k) [.int i, .int j] = (decide (i = k) || decide (j = k)) := by
    unfold inV
    rw [List.any_cons, List.any_cons, List.any_nil, Bool.or_false, eqV_int, eqV_int]
  show Q (.bl (!inV (.int k) [.int i, .int j])) H1
  rw [e]
  exact q _ H1 (Ex.refl H1) (.bl _) Fr.no
/-- l.index(k) -/
theorem d_index {ns : List Int} {k : Int} (h : EvD tl σ H (.list (iL ns))) (hk : EvD te σ H (.int k)) (hm : k ∈ ns) : EvD (tBM K "list" (rIndex K) tl (tCons te tNil)) σ H (.int (ns.idxOf k : Nat)) := fun H1 e1 Q q =>
  h H1 e1 _ fun v H2 e2 hv _ => by
    obtain ⟨a, xs, rfl, ha, hx⟩ := hv.lst_inv
    cases hx.iL_inv
    refine ⟨.inl ⟨rfl, _, sq_of ha⟩, hk H2 (e1.trans e2) _ fun u H3 e3 hu _ => ?_⟩
    cases hu.int_inv
    have hi : ns.idxOf k < ns.length := List.idxOf_lt_length_iff.mpr hm
    refine ⟨a, _, _, ns.idxOf k, .int k, rfl, rfl, sq_of (e3 _ _ ha), rfl, ?_, ?_, ?_, fun m z hlt hz => ?_, q _ H3 (e2.trans e3) (.int _) Fr.no⟩
    · rw [List.all_eq_true]
      intro z hz
      obtain ⟨i, _, rfl⟩ := List.mem_map.mp hz
      rfl
    · rw [List.getElem?_map, List.getElem?_eq_getElem hi, List.getElem_idxOf hi]
      rfl
    · rw [eqV_int]
      exact decide_eq_true rfl
    · rw [List.getElem?_map] at hz
      cases hq : ns[m]? with
      | none => rw [hq] at hz; cases hz
      | some i =>
        rw [hq] at hz
        have ez : V.int i = z := Option.some.inj hz
        rw [← ez, eqV_int]
        refine decide_eq_false fun ei => ?_
        subst ei
        obtain ⟨ml, me⟩ := List.getElem?_eq_some_iff.mp hq
        have q := List.not_of_lt_findIdx (p := (· == i)) (xs := ns) hlt
        simp [me] at q
end
/-! ### fullest -/
def fullRow (n m i : Int) : List (Int × Int) := ((rgI (i + 1) n).filter fun j => !decide ((j - i) % m = 0)).map fun j => (i, j)
def fullF (n m : Int) : List (Int × Int) := (rgI 0 n).flatMap (fullRow n m)
theorem rgI_mem2 {a n x : Int} : x ∈ rgI a n ↔ a ≤ x ∧ x < n := by
  unfold rgI
  rw [List.mem_map]
  constructor
  · rintro ⟨i, hi, rfl⟩
    have := List.mem_range.mp hi
    omega
  · intro h
    exact ⟨(x - a).toNat, List.mem_range.mpr (by omega), by omega⟩
theorem rgI_lt (a n : Int) : (rgI a n).Pairwise (· < ·) := by
  unfold rgI
  refine List.Pairwise.map _ (fun i j h => ?_) List.pairwise_lt_range
  omega
theorem fullRow_mem {n m i : Int} {p : Int × Int} : p ∈ fullRow n m i ↔ p.1 = i ∧ i < p.2 ∧ p.2 < n ∧ ¬ (p.2 - i) % m = 0 := by
  unfold fullRow
  rw [List.mem_map]
  constructor
  · rintro ⟨j, hj, rfl⟩
    obtain ⟨h1, h2⟩ := List.mem_filter.mp hj
    have h3 := rgI_mem2.mp h1
    exact ⟨rfl, by show i < j; omega, h3.2, by simpa using h2⟩
  · rintro ⟨rfl, h2, h3, h4⟩
    exact ⟨p.2, List.mem_filter.mpr ⟨rgI_mem2.mpr (by omega), by simpa using h4⟩, rfl⟩
theorem fullRow_len (n m i : Int) (h : 0 ≤ i) : (fullRow n m i).length ≤ n.toNat := by
  unfold fullRow
  rw [List.length_map]
  refine Nat.le_trans (List.length_filter_le _ _) ?_
  unfold rgI
  rw [List.length_map, List.length_range]
  omega
theorem fullRow_nd (n m i : Int) : (fullRow n m i).Nodup := by
  unfold fullRow
  refine List.Pairwise.map (R := fun a b : Int => a ≠ b) _ (fun a b h e => h (congrArg Prod.snd e)) ?_
  exact (((rgI_lt (i + 1) n).imp fun h => Int.ne_of_lt h).sublist List.filter_sublist)
theorem fullF_ok (n m : Int) : WebOk n (fullF n m) := by
  refine ⟨fun p hp => ?_, ?_⟩
  · obtain ⟨i, hi, hp2⟩ := List.mem_flatMap.mp hp
    have a := rgI_mem.mp hi
    have b := fullRow_mem.mp hp2
    omega
  · unfold fullF
    rw [List.nodup_iff_pairwise_ne, List.pairwise_flatMap]
    refine ⟨fun i _ => fullRow_nd n m i, (rgI_lt 0 n).imp fun {i j} h p hp q hq e => ?_⟩
    have a := (fullRow_mem.mp hp).1
    have b := (fullRow_mem.mp hq).1
    rw [e] at a
    omega
/-! ### a crowd, greedily -/
def cntF (ps : List (Int × Int)) (left : List Int) (x : Int) : Int := ((left.filter fun y => nearF ps x y).length : Int)
def bestF (ps : List (Int × Int)) (left : List Int) : Int := left.getD ((left.map (cntF ps left)).idxOf (mxL (left.map (cntF ps left)))) 0
def crowdGo (ps : List (Int × Int)) : Nat → List Int → List Int
  | 0, _ => []
  | f + 1, left => if left = [] then [] else bestF ps left :: crowdGo ps f (left.filter fun y => nearF ps (bestF ps left) y)
def crowdF (n : Int) (ps : List (Int × Int)) : List Int := crowdGo ps n.toNat (rgI 0 n)
theorem crowdGo_nil (ps : List (Int × Int)) : ∀ f, crowdGo ps f [] = []
  | 0 => rfl
  | f + 1 => rfl
theorem nearF_self {n : Int} {ps : List (Int × Int)} (hW : WebOk n ps) (x : Int) : nearF ps x x = false := by
  unfold nearF
  rw [List.any_eq_false]
  intro p hp
  have := hW.tie p hp
  have a1 : ¬ (p.1 = x ∧ p.2 = x) := by omega
  rw [decide_eq_false a1]
  decide
theorem bestF_ix {ps : List (Int × Int)} {left : List Int} (h : left ≠ []) : (left.map (cntF ps left)).idxOf (mxL (left.map (cntF ps left))) < left.length := by
  have hm := (mxL_ok (l := left.map (cntF ps left)) (by simpa using h)).1
  have := List.idxOf_lt_length_iff.mpr hm
  rwa [List.length_map] at this
theorem bestF_mem {ps : List (Int × Int)} {left : List Int} (h : left ≠ []) : bestF ps left ∈ left := getD_mem (bestF_ix h)
theorem left_less {n : Int} {ps : List (Int × Int)} (hW : WebOk n ps) {left : List Int} (h : left ≠ []) : (left.filter fun y => nearF ps (bestF ps left) y).length < left.length := by
  refine Nat.lt_of_not_le fun z => ?_
  have e : left.filter (fun y => nearF ps (bestF ps left) y) = left := List.filter_sublist.eq_of_length_le z
  have m := bestF_mem (ps := ps) h
  generalize bestF ps left = b at e m
  rw [← e] at m
  have := (List.mem_filter.mp m).2
  rw [nearF_self hW] at this
  cases this
/-! ### groups, greedily -/
def grpRow (n : Int) (ps : List (Int × Int)) (x : Int) : List Int := (rgI x n).filter fun y => !nearF ps x y
def grpStep (n : Int) (ps : List (Int × Int)) (gs : List (List Int)) (x : Int) : List (List Int) := if (gs.any fun g => decide (x ∈ g)) = true then gs else gs ++ [grpRow n ps x]
def grpTo (n : Int) (ps : List (Int × Int)) (xs : List Int) : List (List Int) := xs.foldl (grpStep n ps) []
def groupsF (n : Int) (ps : List (Int × Int)) : List (List Int) := grpTo n ps (rgI 0 n)
theorem grpTo_snoc (n : Int) (ps : List (Int × Int)) (xs : List Int) (x : Int) : grpTo n ps (xs ++ [x]) = grpStep n ps (grpTo n ps xs) x := by
  unfold grpTo
  rw [List.foldl_append]
  rfl
theorem grpTo_len (n : Int) (ps : List (Int × Int)) (xs : List Int) : (grpTo n ps xs).length ≤ xs.length := by
  have key : ∀ (xs : List Int) (gs : List (List Int)), (xs.foldl (grpStep n ps) gs).length ≤ gs.length + xs.length := by
    intro xs
    induction xs with
    | nil => intro gs; exact Nat.le_refl _
    | cons x r ih =>
      intro gs
      have h := ih (grpStep n ps gs x)
      have h2 : (grpStep n ps gs x).length ≤ gs.length + 1 := by
        unfold grpStep
        split
        · omega
        · rw [List.length_append]; exact Nat.le_refl _
      rw [List.foldl_cons, List.length_cons]
      omega
  have := key xs []
  rw [List.length_nil, Nat.zero_add] at this
  exact this
/-! ### three that bar groups -/
def barT (n : Int) (ps : List (Int × Int)) (p : Int × Int) (t : Int) : Bool := !(decide (p.1 = t) || decide (p.2 = t)) && (!nearF ps p.1 t && !nearF ps p.2 t)
def barR (n : Int) (ps : List (Int × Int)) (p : Int × Int) : Option (Int × Int × Int) := ((rgI 0 n).find? (barT n ps p)).map fun t => (p.1, p.2, t)
def barF (n : Int) (ps : List (Int × Int)) : Option (Int × Int × Int) := ps.findSome? (barR n ps)
theorem findSome_at {α β : Type} {l : List α} {f : α → Option β} {i : Nat} {a : α} {b : β} (h : l[i]? = some a) (hn : (l.take i).findSome? f = none) (hf : f a = some b) : l.findSome? f = some b := by
  have e : l = l.take i ++ a :: l.drop (i + 1) := by
    have q := (List.take_append_drop i l).symm
    rwa [drop_at h] at q
  rw [e, List.findSome?_append, hn, List.findSome?_cons, hf]
  rfl
theorem find_at {α : Type} {l : List α} {f : α → Bool} {i : Nat} {a : α} (h : l[i]? = some a) (hn : (l.take i).find? f = none) (hf : f a = true) : l.find? f = some a := by
  have e : l = l.take i ++ a :: l.drop (i + 1) := by
    have q := (List.take_append_drop i l).symm
    rwa [drop_at h] at q
  rw [e, List.find?_append, hn, List.find?_cons, hf]
  rfl
theorem rgI_get {n : Int} {i : Nat} (h : (i : Int) < n) : (rgI 0 n)[i]? = some (i : Int) := by
  unfold rgI
  rw [List.getElem?_map, List.getElem?_range (by omega)]
  show some ((0 : Int) + (i : Nat)) = _
  rw [Int.zero_add]
/-- v is not None -/
theorem t_notN {σ : L2.St} {H : Hp} {i : Nat} {v : V} (h : σ[i]? = some (some v)) : EvT (tTest (tOp (fun x y H Q => y = V.non ∧ Q (.bl (!decide (x = .non))) H) (tVar i) (tC .non))) σ H (!decide (v = .non)) := fun H1 e1 Q q => ⟨v, h, rfl, _, rfl, q H1 (Ex.refl H1)⟩
/-! ### promises -/
def RIsNum (ds : List PyData) (d : PyData) : Prop := ∃ i : Int, ds = [.int i] ∧ d = .bool true
def RIsTie (ds : List PyData) (d : PyData) : Prop := ∃ (p : Int × Int) (n : Int), ds = [pD p, .int n] ∧ 0 ≤ p.1 ∧ p.1 < p.2 ∧ p.2 < n ∧ d = .bool true
def RAskP (ds : List PyData) (d : PyData) : Prop := ∃ n : Int, ds = [.int n] ∧ 1 ≤ n ∧ n ≤ 60 ∧ d = .none
def RAskM (ds : List PyData) (d : PyData) : Prop := ∃ m : Int, ds = [.int m] ∧ 1 ≤ m ∧ d = .none
def RAskW (ds : List PyData) (d : PyData) : Prop := ∃ (n : Int) (ps : List (Int × Int)), ds = [.int n, .list (pL ps)] ∧ 1 ≤ n ∧ n ≤ 60 ∧ WebOk n ps ∧ ps.length < 2000 ∧ d = .none
def RDoorM (ds : List PyData) (d : PyData) : Prop := ∃ p m : Int, ds = [.int p, .int m] ∧ 1 ≤ p ∧ Sz 400 p ∧ Sz 400 m ∧ 1 ≤ m ∧ d = .int (mostT p m)
def RDoorF (ds : List PyData) (d : PyData) : Prop := ∃ n m : Int, ds = [.int n, .int m] ∧ 1 ≤ n ∧ n ≤ 60 ∧ 1 ≤ m ∧ d = .list (pL (fullF n m))
def RCrowdOf (ds : List PyData) (d : PyData) : Prop := ∃ (n : Int) (ps : List (Int × Int)), ds = [.int n, .list (pL ps)] ∧ 1 ≤ n ∧ n ≤ 60 ∧ WebOk n ps ∧ d = .list (iL (crowdF n ps))
def barD : Option (Int × Int × Int) → PyData
  | none => .none
  | some (a, b, c) => .tuple [.int a, .int b, .int c]
def RBarOf (ds : List PyData) (d : PyData) : Prop := ∃ (n : Int) (ps : List (Int × Int)), ds = [.int n, .list (pL ps)] ∧ 1 ≤ n ∧ n ≤ 60 ∧ WebOk n ps ∧ d = barD (barF n ps)
def RGroupsOf (ds : List PyData) (d : PyData) : Prop := ∃ (n : Int) (ps : List (Int × Int)), ds = [.int n, .list (pL ps)] ∧ 1 ≤ n ∧ n ≤ 60 ∧ WebOk n ps ∧ d = .list (gL (groupsF n ps))
/-- parted -/
def spDoorP (A : Ans) : Sp := fun vs H Q _ => ∃ (n : Int) (ps : List (Int × Int)) (vt : V), vs = [.int n, vt] ∧ Dt H vt (.list (pL ps)) ∧ 1 ≤ n ∧ n ≤ 60 ∧ WebOk n ps ∧ ps.length < 2000 ∧
  (∀ a b c x dx H', barF n ps = some (a, b, c) → Ex H H' → H x = none → H' x = some (.ins A.Three dx [("one", .int a), ("other", .int b), ("third", .int c)]) → Q (.ref x) H') ∧
  (∀ x dx p qs H', barF n ps = none → Ex H H' → H x = none → H' x = some (.ins A.Parted dx [("groups", .ref p)]) → Gn H H' p qs (groupsF n ps) → Q (.ref x) H')
/-- told -/
def spDoorT (A : Ans) : Sp := fun vs H Q _ => ∃ (n m : Int) (ps : List (Int × Int)) (vt : V), vs = [.int n, vt, .int m] ∧ Dt H vt (.list (pL ps)) ∧ 1 ≤ n ∧ n ≤ 60 ∧ 1 ≤ m ∧ Sz 400 m ∧ WebOk n ps ∧ ps.length < 2000 ∧
  (∀ x dx H', 0 < mostT n m - (ps.length : Int) → Ex H H' → H x = none → H' x = some (.ins A.Spare dx [("ties", .int (mostT n m - (ps.length : Int)))]) → Q (.ref x) H') ∧
  (∀ x dx p H', ¬ 0 < mostT n m - (ps.length : Int) → m < ((crowdF n ps).length : Int) → Ex H H' → H x = none → H p = none → H' x = some (.ins A.Crowd dx [("some", .ref p)]) → H' p = some (.lst ((srt ((crowdF n ps).take (m.toNat + 1))).map V.int)) → Q (.ref x) H') ∧
  (∀ x dx p qs H', ¬ 0 < mostT n m - (ps.length : Int) → ¬ m < ((crowdF n ps).length : Int) → Ex H H' → H x = none → H' x = some (.ins A.Full dx [("groups", .ref p)]) → Gn H H' p qs (groupsF n ps) → Q (.ref x) H')
end SC

/-! SCG: groups that part a web, three that bar them. -/
namespace SC
/-! ### sums of degrees -/
theorem one_of {l : List Int} (nd : l.Nodup) {a : Int} (h : a ∈ l) : (l.filter fun y => decide (a = y)).length = 1 := by
  induction l with
  | nil => cases h
  | cons b r ih =>
    obtain ⟨n1, n2⟩ := List.nodup_cons.mp nd
    by_cases e : a = b
    · subst e
      rw [List.filter_cons_of_pos (by simp)]
      have : r.filter (fun y => decide (a = y)) = [] := by
        rw [List.filter_eq_nil_iff]
        intro y hy z
        have : a = y := by simpa using z
        exact n1 (this ▸ hy)
      rw [this]
      rfl
    · rw [List.filter_cons_of_neg (by simpa using e)]
      exact ih n2 ((List.mem_cons.mp h).resolve_left e)
theorem none_of {l : List Int} {f : Int → Bool} (h : ∀ y ∈ l, f y = false) : (l.filter f).length = 0 := by
  have : l.filter f = [] := by
    rw [List.filter_eq_nil_iff]
    intro y hy z
    rw [h y hy] at z
    cases z
  rw [this]
  rfl
theorem filter_or {l : List Int} {f g : Int → Bool} (h : ∀ y ∈ l, f y = true → g y = false) : (l.filter fun y => f y || g y).length = (l.filter f).length + (l.filter g).length := by
  induction l with
  | nil => rfl
  | cons b r ih =>
    have q := ih fun y hy => h y (List.mem_cons_of_mem _ hy)
    have hb := h b List.mem_cons_self
    cases hf : f b <;> cases hg : g b
    · rw [List.filter_cons_of_neg (by rw [hf, hg]; decide), List.filter_cons_of_neg (by rw [hf]; decide), List.filter_cons_of_neg (by rw [hg]; decide)]
      exact q
    · rw [List.filter_cons_of_pos (by rw [hf, hg]; decide), List.filter_cons_of_neg (by rw [hf]; decide), List.filter_cons_of_pos hg, List.length_cons, List.length_cons, q]
      omega
    · rw [List.filter_cons_of_pos (by rw [hf, hg]; decide), List.filter_cons_of_pos hf, List.filter_cons_of_neg (by rw [hg]; decide), List.length_cons, List.length_cons, q]
      omega
    · rw [hb hf] at hg
      cases hg
theorem filter_not {l : List Int} {f : Int → Bool} : (l.filter f).length + (l.filter fun y => !f y).length = l.length := by
  induction l with
  | nil => rfl
  | cons b r ih =>
    cases hf : f b
    · rw [List.filter_cons_of_neg (by rw [hf]; decide), List.filter_cons_of_pos (by rw [hf]; decide), List.length_cons, List.length_cons]
      omega
    · rw [List.filter_cons_of_pos hf, List.filter_cons_of_neg (by rw [hf]; decide), List.length_cons, List.length_cons]
      omega
theorem sum_add (l : List Int) (f g : Int → Nat) : (l.map fun x => f x + g x).sum = (l.map f).sum + (l.map g).sum := by
  induction l with
  | nil => rfl
  | cons b r ih => rw [List.map_cons, List.sum_cons, ih, List.map_cons, List.sum_cons, List.map_cons, List.sum_cons]; omega
theorem sum_ind {l : List Int} (nd : l.Nodup) {a : Int} (h : a ∈ l) : (l.map fun x => if x = a then 1 else 0).sum = 1 := by
  induction l with
  | nil => cases h
  | cons b r ih =>
    obtain ⟨n1, n2⟩ := List.nodup_cons.mp nd
    rw [List.map_cons, List.sum_cons]
    by_cases e : b = a
    · rw [if_pos e]
      have : (r.map fun x => if x = a then 1 else 0).sum = 0 := by
        have q : r.map (fun x => if x = a then 1 else 0) = r.map fun _ => 0 := List.map_congr_left fun x hx => if_neg fun z => n1 (by rw [e, ← z]; exact hx)
        rw [q]
        clear q ih h nd n1 n2
        induction r with
        | nil => rfl
        | cons x y ih => rw [List.map_cons, List.sum_cons, ih]
      rw [this]
    · rw [if_neg e, ih n2 ((List.mem_cons.mp h).resolve_left fun z => e z.symm)]
def degF (n : Int) (ps : List (Int × Int)) (x : Int) : Nat := ((rgI 0 n).filter fun y => nearF ps x y).length
theorem near_iff {ps : List (Int × Int)} {x y : Int} : nearF ps x y = true ↔ (x, y) ∈ ps ∨ (y, x) ∈ ps := by
  unfold nearF
  rw [List.any_eq_true]
  constructor
  · rintro ⟨p, hp, h⟩
    rw [Bool.or_eq_true, decide_eq_true_eq, decide_eq_true_eq] at h
    rcases h with ⟨h1, h2⟩ | ⟨h1, h2⟩
    · exact .inl (by rw [← h1, ← h2]; exact hp)
    · exact .inr (by rw [← h1, ← h2]; exact hp)
  · rintro (h | h)
    · exact ⟨_, h, by simp⟩
    · exact ⟨_, h, by simp⟩
theorem deg_sum {n : Int} : ∀ {ps : List (Int × Int)}, WebOk n ps → ((rgI 0 n).map (degF n ps)).sum = 2 * ps.length
  | [], _ => by
    have : (rgI 0 n).map (degF n []) = (rgI 0 n).map fun _ => 0 := List.map_congr_left fun x _ => none_of fun _ _ => rfl
    rw [this]
    generalize rgI 0 n = l
    induction l with
    | nil => rfl
    | cons x y ih => rw [List.map_cons, List.sum_cons]; simpa using ih
  | p :: ps, hW => by
    have hW2 : WebOk n ps := ⟨fun q hq => hW.tie q (List.mem_cons_of_mem _ hq), (List.nodup_cons.mp hW.nd).2⟩
    have hp := hW.tie p List.mem_cons_self
    have hn := (List.nodup_cons.mp hW.nd).1
    have m1 : p.1 ∈ rgI 0 n := rgI_mem.mpr (by omega)
    have m2 : p.2 ∈ rgI 0 n := rgI_mem.mpr (by omega)
    have e : ∀ x ∈ rgI 0 n, degF n (p :: ps) x = degF n ps x + ((if x = p.1 then 1 else 0) + (if x = p.2 then 1 else 0)) := fun x _ => by
      have e1 : degF n (p :: ps) x = ((rgI 0 n).filter fun y => (decide (p.1 = x ∧ p.2 = y) || decide (p.1 = y ∧ p.2 = x)) || nearF ps x y).length := rfl
      rw [e1, filter_or fun y _ hy => ?_]
      · have e2 : ((rgI 0 n).filter fun y => decide (p.1 = x ∧ p.2 = y) || decide (p.1 = y ∧ p.2 = x)).length = (if x = p.1 then 1 else 0) + (if x = p.2 then 1 else 0) := by
          by_cases c1 : x = p.1
          · rw [if_pos c1, if_neg (by omega)]
            have : ((rgI 0 n).filter fun y => decide (p.1 = x ∧ p.2 = y) || decide (p.1 = y ∧ p.2 = x)) = (rgI 0 n).filter fun y => decide (p.2 = y) := List.filter_congr fun y _ => by
              have a1 : ¬ (p.1 = y ∧ p.2 = x) := by omega
              have a2 : (p.1 = x ∧ p.2 = y) ↔ p.2 = y := by omega
              rw [decide_eq_false a1, Bool.or_false, decide_eq_decide.mpr a2]
            rw [this, one_of (rgI_nodup n) m2]
          · rw [if_neg c1]
            by_cases c2 : x = p.2
            · rw [if_pos c2]
              have : ((rgI 0 n).filter fun y => decide (p.1 = x ∧ p.2 = y) || decide (p.1 = y ∧ p.2 = x)) = (rgI 0 n).filter fun y => decide (p.1 = y) := List.filter_congr fun y _ => by
                have a1 : ¬ (p.1 = x ∧ p.2 = y) := by omega
                have a2 : (p.1 = y ∧ p.2 = x) ↔ p.1 = y := by omega
                rw [decide_eq_false a1, Bool.false_or, decide_eq_decide.mpr a2]
              rw [this, one_of (rgI_nodup n) m1]
            · rw [if_neg c2]
              exact none_of fun y _ => by
                have a1 : ¬ (p.1 = x ∧ p.2 = y) := by omega
                have a2 : ¬ (p.1 = y ∧ p.2 = x) := by omega
                rw [decide_eq_false a1, decide_eq_false a2]
                rfl
        rw [e2]
        have e3 : degF n ps x = ((rgI 0 n).filter fun y => nearF ps x y).length := rfl
        rw [e3, Nat.add_comm]
      · cases hz : nearF ps x y with
        | false => rfl
        | true =>
          exfalso
          rw [Bool.or_eq_true, decide_eq_true_eq, decide_eq_true_eq] at hy
          rcases near_iff.mp hz with h | h
          · have t := hW2.tie _ h
            rcases hy with ⟨h1, h2⟩ | ⟨h1, h2⟩
            · exact hn (by rw [← h1, ← h2] at h; exact h)
            · simp only at t; omega
          · have t := hW2.tie _ h
            rcases hy with ⟨h1, h2⟩ | ⟨h1, h2⟩
            · simp only at t; omega
            · exact hn (by rw [← h1, ← h2] at h; exact h)
    rw [List.map_congr_left e, sum_add, sum_add, sum_ind (rgI_nodup n) m1, sum_ind (rgI_nodup n) m2, deg_sum hW2, List.length_cons]
    omega
theorem deg_aloof {n : Int} {ps : List (Int × Int)} (x : Int) : degF n ps x + (aloof n ps x).length = n.toNat := by
  have h := filter_not (l := rgI 0 n) (f := fun y => nearF ps x y)
  rw [rgI_len] at h
  exact h
/-! ### aloof places -/
theorem aloof_mem {n : Int} {ps : List (Int × Int)} {x y : Int} : y ∈ aloof n ps x ↔ y ∈ rgI 0 n ∧ nearF ps x y = false := by
  unfold aloof
  rw [List.mem_filter]
  constructor
  · rintro ⟨h1, h2⟩
    exact ⟨h1, by simpa using h2⟩
  · rintro ⟨h1, h2⟩
    exact ⟨h1, by rw [h2]; rfl⟩
/-- being aloof is a likeness -/
def Like (n : Int) (ps : List (Int × Int)) : Prop := ∀ x ∈ rgI 0 n, ∀ y ∈ rgI 0 n, nearF ps x y = false → aloof n ps x = aloof n ps y
theorem like_of {n : Int} {ps : List (Int × Int)} (hW : WebOk n ps) (h : barF n ps = none) : Like n ps := by
  have tr : ∀ a b t, (a, b) ∈ ps → t ∈ rgI 0 n → t ≠ a → t ≠ b → nearF ps a t = true ∨ nearF ps b t = true := fun a b t hp ht n1 n2 => by
    have q := List.findSome?_eq_none_iff.mp h _ hp
    unfold barR at q
    have q2 : (rgI 0 n).find? (barT n ps (a, b)) = none := by simpa using q
    have q3 := List.find?_eq_none.mp q2 t ht
    unfold barT at q3
    have a1 : ¬ a = t := fun z => n1 z.symm
    have a2 : ¬ b = t := fun z => n2 z.symm
    simp only [decide_eq_false a1, decide_eq_false a2, Bool.or_false, Bool.not_false, Bool.true_and] at q3
    cases h1 : nearF ps a t with
    | true => exact .inl rfl
    | false =>
      cases h2 : nearF ps b t with
      | true => exact .inr rfl
      | false => rw [h1, h2] at q3; exact absurd rfl q3
  have one : ∀ x ∈ rgI 0 n, ∀ y ∈ rgI 0 n, nearF ps x y = false → ∀ z ∈ rgI 0 n, nearF ps x z = true → nearF ps y z = true := fun x hx y hy hxy z hz hxz => by
    by_cases e : y = x
    · rw [e]; exact hxz
    · by_cases e2 : y = z
      · rw [← e2] at hxz; rw [hxy] at hxz; cases hxz
      · rcases near_iff.mp hxz with h1 | h1
        · rcases tr x z y h1 hy e e2 with k | k
          · rw [hxy] at k; cases k
          · rw [nearF_symm]; exact k
        · rcases tr z x y h1 hy e2 e with k | k
          · rw [nearF_symm]; exact k
          · rw [hxy] at k; cases k
  intro x hx y hy hxy
  unfold aloof
  refine List.filter_congr fun z hz => ?_
  have h1 := one x hx y hy hxy z hz
  have h2 := one y hy x hx (by rw [nearF_symm]; exact hxy) z hz
  cases e1 : nearF ps x z <;> cases e2 : nearF ps y z
  · rfl
  · rw [h2 e2] at e1; cases e1
  · rw [h1 e1] at e2; cases e2
  · rfl
theorem sum_flat (f : Int → Nat) : ∀ (gs : List (List Int)), (gs.flatten.map f).sum = (gs.map fun g => (g.map f).sum).sum
  | [] => rfl
  | g :: r => by rw [List.flatten_cons, List.map_append, List.sum_append, sum_flat f r, List.map_cons, List.sum_cons]
theorem sum_const {l : List Int} {f : Int → Nat} {k : Nat} (h : ∀ x ∈ l, f x = k) : (l.map f).sum = l.length * k := by
  induction l with
  | nil => simp
  | cons b r ih => rw [List.map_cons, List.sum_cons, h b List.mem_cons_self, ih fun x hx => h x (List.mem_cons_of_mem _ hx), List.length_cons, Nat.succ_mul]; omega
/-- the likeness' classes, each once, part the web -/
theorem classes_part {n : Int} (h0 : 0 ≤ n) {ps : List (Int × Int)} (hW : WebOk n ps) (L : Like n ps) {gs : List (List Int)} (h1 : ∀ g ∈ gs, ∃ x ∈ rgI 0 n, g = aloof n ps x) (h2 : ∀ x ∈ rgI 0 n, aloof n ps x ∈ gs) (nd : gs.Nodup) : lawParted n ps gs = true := by
  have own : ∀ g ∈ gs, ∀ x ∈ g, x ∈ rgI 0 n ∧ g = aloof n ps x := fun g hg x hx => by
    obtain ⟨z, hz, rfl⟩ := h1 g hg
    obtain ⟨a, b⟩ := aloof_mem.mp hx
    exact ⟨a, L z hz x a b⟩
  have srtg : ∀ g ∈ gs, g.Pairwise (· < ·) := fun g hg => by
    obtain ⟨z, hz, rfl⟩ := h1 g hg
    exact (rgI_lt 0 n).sublist List.filter_sublist
  have ndf : gs.flatten.Nodup := by
    rw [List.nodup_iff_pairwise_ne, List.pairwise_flatten]
    refine ⟨fun g hg => (srtg g hg).imp fun h => Int.ne_of_lt h, List.Pairwise.imp_of_mem (fun {a b} ha hb hne x hx y hy e => ?_) nd⟩
    subst e
    exact hne ((own a ha x hx).2.trans (own b hb x hy).2.symm)
  have pm : gs.flatten.Perm (rgI 0 n) := (List.perm_ext_iff_of_nodup ndf (rgI_nodup n)).mpr fun x => by
    rw [List.mem_flatten]
    constructor
    · rintro ⟨g, hg, hx⟩
      exact (own g hg x hx).1
    · intro hx
      exact ⟨_, h2 x hx, aloof_self hW hx⟩
  have c1 : gs.any lawBad = false := by
    rw [List.any_eq_false]
    intro g hg
    unfold lawBad
    obtain ⟨z, hz, e⟩ := h1 g hg
    have ne : g ≠ [] := fun q => by
      have := aloof_self hW hz
      rw [← e, q] at this
      cases this
    rw [decide_eq_false ne, srt_self ((srtg g hg).imp fun h => by omega), decide_eq_true rfl]
    decide
  have c2 : srt gs.flatten = rgI 0 n := (srt_of pm.symm ((rgI_lt 0 n).imp fun h => by omega)).symm
  have c3 : (ps.any fun p => decide ((homeL gs p.1 : Int) = (homeL gs p.2 : Int))) = false := by
    rw [List.any_eq_false]
    intro p hp
    have t := hW.tie p hp
    have m1 : p.1 ∈ gs.flatten := pm.mem_iff.mpr (rgI_mem.mpr (by omega))
    have m2 : p.2 ∈ gs.flatten := pm.mem_iff.mpr (rgI_mem.mpr (by omega))
    rw [home_same ndf m1, home_same ndf m2, decide_eq_true_eq]
    intro e
    have e' : homeF gs p.1 = homeF gs p.2 := by omega
    have l1 := homeF_lt m1
    have l2 := homeF_lt m2
    have i1 : p.1 ∈ gs[homeF gs p.1] := by
      have := List.findIdx_getElem (xs := gs) (p := fun g => decide (p.1 ∈ g)) (w := l1)
      exact of_decide_eq_true this
    have i2 : p.2 ∈ gs[homeF gs p.2] := by
      have := List.findIdx_getElem (xs := gs) (p := fun g => decide (p.2 ∈ g)) (w := l2)
      exact of_decide_eq_true this
    have i3 : p.2 ∈ gs[homeF gs p.1] := by
      have : gs[homeF gs p.1] = gs[homeF gs p.2] := by congr 1
      rw [this]; exact i2
    have q := (own _ (List.getElem_mem l1) _ i1).2
    rw [q] at i3
    have := (aloof_mem.mp i3).2
    rw [near_iff.mpr (.inl hp)] at this
    cases this
  have c4 : (ps.length : Int) * 2 = crossS n gs := by
    have s1 := deg_sum hW
    have s2 : (gs.flatten.map (degF n ps)).sum = ((rgI 0 n).map (degF n ps)).sum := (pm.map (degF n ps)).sum_nat
    rw [sum_flat] at s2
    have s3 : gs.map (fun g => (g.map (degF n ps)).sum) = gs.map fun g => g.length * (n.toNat - g.length) := List.map_congr_left fun g hg => sum_const fun x hx => by
      have := deg_aloof (n := n) (ps := ps) x
      rw [← (own g hg x hx).2] at this
      omega
    rw [s3, s1] at s2
    have s4 : ∀ gs : List (List Int), (∀ g ∈ gs, g.length ≤ n.toNat) → ((gs.map fun g => g.length * (n.toNat - g.length)).sum : Int) = crossS n gs := by
      intro gs
      induction gs with
      | nil => intro _; rfl
      | cons g r ih =>
        intro hl
        have := ih fun x hx => hl x (List.mem_cons_of_mem _ hx)
        unfold crossS at this ⊢
        rw [List.map_cons, List.sum_cons, List.map_cons, List.sum_cons, ← this]
        have e : ((n.toNat - g.length : Nat) : Int) = n - (g.length : Int) := by
          have := hl g List.mem_cons_self
          omega
        rw [Int.natCast_add, Int.natCast_mul, e]
    have s5 := s4 gs fun g hg => by
      obtain ⟨z, hz, e⟩ := h1 g hg
      have := deg_aloof (n := n) (ps := ps) z
      rw [← e] at this
      omega
    rw [← s5, s2]
    omega
  unfold lawParted
  rw [c1, c2, c3, decide_eq_true rfl, decide_eq_true c4]
  rfl
/-! ### both ways to the classes -/
theorem lawTo_nd (n : Int) (ps : List (Int × Int)) : ∀ (m : Nat) {xs : List Int}, xs.length = m → (lawGroupsTo n ps xs).Nodup ∧ ∀ x ∈ xs, aloof n ps x ∈ lawGroupsTo n ps xs
  | 0, xs, h => by
    have e : xs = [] := List.eq_nil_of_length_eq_zero h
    subst e
    exact ⟨List.nodup_nil, fun x hx => nomatch hx⟩
  | m + 1, xs, h => by
    have hne : xs ≠ [] := fun z => by rw [z] at h; cases h
    have e : xs = xs.dropLast ++ [xs.getLast hne] := (List.dropLast_concat_getLast hne).symm
    obtain ⟨i1, i2⟩ := lawTo_nd n ps m (xs := xs.dropLast) (by rw [List.length_dropLast]; omega)
    generalize xs.dropLast = ys at e i1 i2
    generalize xs.getLast hne = z at e
    subst e
    rw [lawGroupsTo_snoc]
    unfold addNew
    split
    · rename_i hz
      refine ⟨i1, fun x hx => ?_⟩
      rcases List.mem_append.mp hx with hx | hx
      · exact i2 x hx
      · rw [List.mem_singleton.mp hx]; exact hz
    · rename_i hz
      refine ⟨List.nodup_append.mpr ⟨i1, List.pairwise_singleton _ _, fun a ha b hb => by rw [List.mem_singleton.mp hb]; exact fun e => hz (e ▸ ha)⟩, fun x hx => ?_⟩
      rcases List.mem_append.mp hx with hx | hx
      · exact List.mem_append_left _ (i2 x hx)
      · rw [List.mem_singleton.mp hx]; exact List.mem_append_right _ (List.mem_singleton.mpr rfl)
theorem law_part {n : Int} (h0 : 0 ≤ n) {ps : List (Int × Int)} (hW : WebOk n ps) (L : Like n ps) : lawParted n ps (lawGroups n ps) = true := by
  obtain ⟨a, b⟩ := lawTo_nd n ps _ (xs := rgI 0 n) rfl
  exact classes_part h0 hW L (fun g hg => groupsTo_mem _ rfl g hg) b a
theorem groups_eq {n : Int} {ps : List (Int × Int)} (hW : WebOk n ps) (L : Like n ps) : groupsF n ps = lawGroups n ps := by
  have key : ∀ k : Nat, (k : Int) ≤ n → grpTo n ps ((rgI 0 n).take k) = lawGroupsTo n ps ((rgI 0 n).take k) := by
    intro k
    induction k with
    | zero => intro _; rfl
    | succ k ih =>
      intro hk
      have e := ih (by omega)
      rw [rgI_take (by omega), grpTo_snoc, lawGroupsTo_snoc, e]
      have hkm : (k : Int) ∈ rgI 0 n := rgI_mem.mpr (by omega)
      have tk : ∀ x : Int, x ∈ (rgI 0 n).take k ↔ 0 ≤ x ∧ x < k := fun x => by
        have e2 : (rgI 0 n).take k = rgI 0 (k : Int) := by
          unfold rgI
          rw [← List.map_take, List.take_range, Nat.min_eq_left (by omega)]
          rfl
        rw [e2]
        exact rgI_mem
      have all := (lawTo_nd n ps _ (xs := (rgI 0 n).take k) rfl).2
      have mem := fun g hg => groupsTo_mem (n := n) (ps := ps) _ (xs := (rgI 0 n).take k) rfl g hg
      generalize lawGroupsTo n ps ((rgI 0 n).take k) = G at all mem
      unfold grpStep addNew
      by_cases c : (G.any fun g => decide ((k : Int) ∈ g)) = true
      · obtain ⟨g, hg, hx⟩ := List.any_eq_true.mp c
        obtain ⟨z, hz, rfl⟩ := mem g hg
        have hz2 : z ∈ rgI 0 n := List.mem_of_mem_take hz
        have q := L z hz2 k hkm (aloof_mem.mp (of_decide_eq_true hx)).2
        rw [if_pos c, if_pos (by rw [← q]; exact hg)]
      · have no : aloof n ps k ∉ G := fun z => c (List.any_eq_true.mpr ⟨_, z, decide_eq_true (aloof_self hW hkm)⟩)
        rw [if_neg c, if_neg no]
        have er : grpRow n ps k = aloof n ps k := by
          unfold grpRow aloof
          have e3 : rgI 0 n = rgI 0 (k : Int) ++ rgI (k : Int) n := by
            unfold rgI
            have l1 : (n - 0).toNat = k + (n - k).toNat := by omega
            rw [l1, List.range_add, List.map_append, List.map_map]
            congr 1
            simp
          rw [e3, List.filter_append]
          have e4 : (rgI 0 (k : Int)).filter (fun y => !nearF ps k y) = [] := by
            rw [List.filter_eq_nil_iff]
            intro y hy hz
            have hy2 := rgI_mem.mp hy
            have ny : nearF ps k y = false := by simpa using hz
            refine c (List.any_eq_true.mpr ⟨_, all y ((tk y).mpr hy2), decide_eq_true ?_⟩)
            exact aloof_mem.mpr ⟨hkm, by rw [nearF_symm]; exact ny⟩
          rw [e4, List.nil_append]
        rw [er]
  have q := key n.toNat
  unfold groupsF lawGroups
  by_cases hn : 0 ≤ n
  · have := q (by omega)
    rwa [List.take_of_length_le (by rw [rgI_len]; exact Nat.le_refl _)] at this
  · have : rgI 0 n = [] := by
      unfold rgI
      rw [show (n - 0).toNat = 0 by omega]
      rfl
    rw [this]
    rfl
/-! ### three that bar -/
theorem bar_some {n : Int} {ps : List (Int × Int)} {a b c : Int} (h : barF n ps = some (a, b, c)) : (a, b) ∈ ps ∧ c ∈ rgI 0 n ∧ c ≠ a ∧ c ≠ b ∧ nearF ps a c = false ∧ nearF ps b c = false := by
  obtain ⟨p, hp, q⟩ := List.exists_of_findSome?_eq_some h
  unfold barR at q
  obtain ⟨t, ht, e⟩ := Option.map_eq_some_iff.mp q
  cases e
  have h1 := List.find?_some ht
  unfold barT at h1
  simp only [Bool.and_eq_true, Bool.not_eq_true', Bool.or_eq_false_iff, decide_eq_false_iff_not] at h1
  exact ⟨hp, List.mem_of_find?_eq_some ht, fun z => h1.1.1 z.symm, fun z => h1.1.2 z.symm, h1.2.1, h1.2.2⟩
theorem bar_three {n : Int} {ps : List (Int × Int)} (hW : WebOk n ps) {a b c : Int} (h : barF n ps = some (a, b, c)) : isThree n ps a b c = true := by
  obtain ⟨h1, h2, h3, h4, h5, h6⟩ := bar_some h
  have t := hW.tie _ h1
  simp only at t
  have c2 := rgI_mem.mp h2
  unfold isThree
  have l3 : (sset [a, b, c]).length = 3 := by
    refine Nat.le_antisymm (sset_len_le _) (nodup_len (l := [a, b, c]) ?_ fun z hz => sset_mem.mpr hz)
    simp only [List.nodup_cons, List.mem_cons, List.not_mem_nil, or_false, not_or, List.nodup_nil, and_true, not_false_eq_true]
    omega
  have ir : inRg n [a, b, c] = true := by
    unfold inRg
    simp only [List.all_cons, List.all_nil, Bool.and_true, Bool.and_eq_true, decide_eq_true_eq]
    omega
  rw [l3, ir, near_iff.mpr (.inl h1), h5, h6]
  rfl
theorem bar_not {n : Int} {ps : List (Int × Int)} (hW : WebOk n ps) {a b c : Int} (h : barF n ps = some (a, b, c)) : lawParted n ps (lawGroups n ps) = false := by
  obtain ⟨h1, h2, h3, h4, h5, h6⟩ := bar_some h
  have t := hW.tie _ h1
  simp only at t
  unfold lawParted
  by_cases hs : srt (lawGroups n ps).flatten = rgI 0 n
  · have nd : (lawGroups n ps).flatten.Nodup := by
      have pm := srt_perm (lawGroups n ps).flatten
      rw [hs] at pm
      exact pm.nodup_iff.mp (rgI_nodup n)
    have hg := (lawTo_nd n ps _ (xs := rgI 0 n) rfl).2 c h2
    have hg : aloof n ps c ∈ lawGroups n ps := hg
    obtain ⟨i, hi⟩ := List.getElem?_of_mem hg
    have ma : a ∈ aloof n ps c := aloof_mem.mpr ⟨rgI_mem.mpr (by omega), by rw [nearF_symm]; exact h5⟩
    have mb : b ∈ aloof n ps c := aloof_mem.mpr ⟨rgI_mem.mpr (by omega), by rw [nearF_symm]; exact h6⟩
    have hm : ∀ {x : Int}, x ∈ aloof n ps c → homeL (lawGroups n ps) x = i := fun {x} hx => by
      rw [home_same nd (List.mem_flatten.mpr ⟨_, hg, hx⟩)]
      refine homeF_at hi hx fun z => ?_
      have e : (lawGroups n ps).flatten = ((lawGroups n ps).take i).flatten ++ (aloof n ps c ++ ((lawGroups n ps).drop (i + 1)).flatten) := by
        conv => lhs; rw [← List.take_append_drop i (lawGroups n ps), drop_at hi]
        rw [List.flatten_append, List.flatten_cons]
      rw [e] at nd
      exact (List.nodup_append.mp nd).2.2 x z x (List.mem_append_left _ hx) rfl
    have any_ : (ps.any fun p => decide ((homeL (lawGroups n ps) p.1 : Int) = (homeL (lawGroups n ps) p.2 : Int))) = true := List.any_eq_true.mpr ⟨_, h1, decide_eq_true (by rw [hm ma, hm mb])⟩
    rw [any_]
    cases (lawGroups n ps).any lawBad <;> cases decide (srt (lawGroups n ps).flatten = rgI 0 n) <;> rfl
  · rw [decide_eq_false hs]
    cases (lawGroups n ps).any lawBad <;> rfl
end SC

/-! SCH: own classes asked, lists of lists sorted, lists spoilt. -/
namespace SC
open PySem PySem.Spec PyProof.Rows L2 Evl
/-! ### sorted(l), l lists of ints in their order -/
def rSortedG (K : PySem.W.Frag) : List V → Hp → VK → Prop := fun vs H Q => ∃ (a : Addr) (xs : List V) (gs : List (List Int)), vs = [V.ref a] ∧ SqL K H a xs ∧ DtAll H xs (gL gs) ∧ gs.Pairwise (· ≤ ·) ∧ gs.length ≤ 100000 ∧ ∀ p, H p = none → Q (.ref p) (upd H p (.lst xs))
def encG (b : Value × List Int) : PyData := .list (b.2.map .int)
theorem each_self : ∀ {us : List Value} {gs : List (List Int)}, us.length = gs.length → PySem.W.EachIs (fun v (b : Value × List Int) => v = b.1) us (us.zip gs)
  | [], [], _ => .nil
  | u :: us, g :: gs, h => .cons rfl (each_self (Nat.succ.inj h))
theorem each_back : ∀ {out : List Value} {bs : List (Value × List Int)}, PySem.W.EachIs (fun v (b : Value × List Int) => v = b.1) out bs → out = bs.map (·.1)
  | _, _, .nil => rfl
  | _, _, .cons h k => by rw [each_back k, h]; rfl
theorem zip_enc {us : List Value} {gs : List (List Int)} (h : us.length = gs.length) : (us.zip gs).map encG = gL gs := by
  have e : (us.zip gs).map encG = ((us.zip gs).map (·.2)).map fun g => PyData.list (g.map .int) := by rw [List.map_map]; rfl
  rw [e, List.map_snd_zip (by omega)]
  rfl
section
variable {X : Cx} {K : PySem.W.Frag}
theorem cr_sortedG (e : X.K = K) (hu : X.A.units + 64 < cLine) : CallR X (.builtin "sorted") (rSortedG K) := by
  subst e
  intro pins s σ H vs us Q I r h
  obtain ⟨a, xs, gs, rfl, hs, hx, hp, hl, q⟩ := h
  obtain ⟨its, rv, pl, hz⟩ := I.list hs
  rw [Vals.ref1 r]
  have len : its.length = gs.length := by
    rw [← rv.length, hx.length]
    exact List.length_map _
  obtain ⟨as, rd⟩ := Dp.readsAll I _ _ _ (DtAll.dp hx) rv
  rw [← zip_enc len] at rd
  refine PySem.W.sorted_data (bs := its.zip gs) (enc := encG) pl.isList (each_self len) (PySem.W.readsAll_each encG rd) (PySem.W.AllAlike.of fun b b' => ?_) (PySem.W.Sortable.others fun b => ⟨(fun z => nomatch z), fun xs z => nomatch z⟩) (by rw [List.length_zip, sizeLine_eq]; omega) (fun b _ => ?_) fun out ol ho => ?_
  · show PySem.W.alike (.list _) (.list _) = true
    simp only [PySem.W.alike]
    exact PySem.W.alike_ints _ _
  · have := PySem.W.depth_ints b.2
    show X.A.units + 2 + PyData.depth (.list (b.2.map .int)) < cLine
    simp only [PyData.depth]
    omega
  · have sm : (its.zip gs).mergeSort (PySem.W.dataLe false encG) = its.zip gs := by
      refine List.mergeSort_of_pairwise ?_
      have e : PySem.W.dataLe false encG = fun p q : Value × List Int => decide (p.2 ≤ q.2) := PySem.W.dataLe_rows (fun b : Value × List Int => b.2)
      rw [e]
      have hp2 : ((its.zip gs).map (·.2)).Pairwise (· ≤ ·) := by rw [List.map_snd_zip (by omega)]; exact hp
      exact (List.pairwise_map.mp hp2).imp fun h => decide_eq_true h
    rw [sm] at ho
    have eo : out = its := by
      rw [each_back ho, List.map_fst_zip (by omega)]
    subst eo
    obtain ⟨n, hn⟩ := sortedAll_at s.heap out out.toArray
    exact ⟨.ref _, upd H (s.heap.objs.size + 1) (.lst xs), I.laid (t' := s.toks) (fun b o e => sortedAll_old e) (Nat.le_succ _) ⟨hz, out, n, rv, hn⟩, rfl, q _ (I.hok.fresh (Nat.le_succ _))⟩
end
section
variable {K : PySem.W.Frag} {w : World} {σ : L2.St} {H : Hp} {te ta tb : TE} {tas : TA} {v : V} {n : Int} {ps : List (Int × Int)}
theorem d_sortedG {gs : List (List Int)} (h : EvD te σ H (.list (gL gs))) (hp : gs.Pairwise (· ≤ ·)) (hl : gs.length ≤ 100000) : EvR true (tCB (rSortedG K) (tCons te tNil)) σ H (.list (gL gs)) := fun H1 e1 Q q =>
  h H1 e1 _ fun v H2 e2 hv _ => by
    obtain ⟨a, xs, rfl, ha, hx⟩ := hv.lst_inv
    exact ⟨a, xs, gs, rfl, sq_of ha, hx, hp, hl, fun p hp => q _ _ (e2.trans (Ex.new hp)) (.lst upd_same (hx.ex (Ex.new hp))) fun _ => ⟨p, rfl, fresh_back e2 hp⟩⟩
/-! ### isinstance of own classes -/
/-- a class of the text whose instances may be asked for their class -/
structure ICl (K : PySem.W.Frag) (C : Addr) : Prop where
  cl : Cls K C
  a1 : PySem.W.findIn K (.ref C) "__class__" = some (some (.builtin "object.__class__"))
  a2 : PySem.W.specialIn K (.builtin "object.__class__") "__get__" = some (some (.builtin "getset_descriptor.__get__"))
  a3 : PySem.W.takesIn K (.builtin "object.__class__") = some true
  a4 : PySem.W.mroIn K C (.type "object") = some true
theorem d_isOwn {a C D dx : Addr} {fs : List (Str × V)} {b : Bool} (h : Ev te σ H (.ref a)) (hx : H a = some (.ins C dx fs)) (I : ICl K C) (e : PySem.W.kitOne K (.ref C) (.ref D) = some b) : EvD (tCB (rIsi K) (tCons te (tCons (tC (.ref D)) tNil))) σ H (.bool b) := fun H1 e1 Q q =>
  h H1 e1 _ fun H2 e2 => ⟨.ref a, .ref D, .ref C, .ref D, b, rfl, .own D, .base (.ins (e2 _ _ (e1 _ _ hx)) I.cl I.a1 I.a2 I.a3 I.a4), e, q _ H2 e2 (.bl b) Fr.no⟩
/-- what is not True, not False -/
theorem rd_notB {a b : Bool} : RD false rNotB (.bool a) (.bool b) H (.bool (!decide (a = b))) := fun u v H1 _ hu hv Q q => ⟨a, b, hu.bl_inv, hv.bl_inv, q _ H1 (Ex.refl H1) (.bl _) Fr.no⟩
/-- a, b, c = l -/
theorem g_unl3 {i j l : Nat} {d1 d2 d3 : PyData} {Q : L2.St → Hp → Prop} (h : Dt H v (.list [d1, d2, d3])) (k : ∀ v1 v2 v3, Dt H v1 d1 → Dt H v2 d2 → Dt H v3 d3 → Q (((σ.set i (some v1)).set j (some v2)).set l (some v3)) H) : gUnl K 3 (gCons (gName i) (gCons (gName j) (gCons (gName l) gNil))) v σ H Q := by
  obtain ⟨a, xs, rfl, ha, hx⟩ := h.lst_inv
  obtain ⟨v1, v2, v3, rfl, h1, h2, h3⟩ := hx.three
  exact ⟨a, _, rfl, sq_of ha, rfl, v1, _, rfl, v2, _, rfl, v3, _, rfl, rfl, k v1 v2 v3 h1 h2 h3⟩
theorem q_asgD {i : Nat} {D : Ends} {tz : TS} {g : TG} (hv : σ[i]? = some (some v)) (k : g v σ H fun σ1 H1 => tz D σ1 H1) : tSeq (tAsg (tVar i) g) tz D σ H := ⟨v, hv, k⟩
end
theorem pg_unlK {X : Cx} {K : PySem.W.Frag} {pos : Pos} {es : List Expr} {k : Nat} {t : TGs} {n : Nat} (e : X.K = K) (hc : X.calm = true) (h : PGs X es t)
    (hn : (assignEach es X.env).length = n := by rfl) (hst : (assignEach es X.env).findIdx? (·.1) = none := by rfl) : PG X (.Tuple es k pos) (gUnl K n t) := e ▸ pg_unl hc h hn hst
theorem delS_exx {H H' : Hp} (e : Ex H H') (S : List Addr) : Ex (delS H S) (delS H' S) := ex_delSS e
/-! ### promises of law 3 -/
def RWhole (ds : List PyData) (d : PyData) : Prop := ∃ xs : List Int, ds = [.list (iL xs)] ∧ xs.length ≤ 1000 ∧ d = .bool true
def RThree3 (ds : List PyData) (d : PyData) : Prop := ∃ (n : Int) (ps : List (Int × Int)) (a b c : Int), ds = [.int n, .list (pL ps), .list (iL [a, b, c])] ∧ 1 ≤ n ∧ n ≤ 60 ∧ WebOk n ps ∧ d = .bool (isThree n ps a b c)
def spSpoilt : Sp := fun vs H Q _ => ∃ (p : Addr) (qs : List Addr) (gs : List (List Int)), vs = [.ref p] ∧ H p = some (.lst (qs.map V.ref)) ∧ (p :: qs).Nodup ∧ qs.length = gs.length ∧ (∀ (i : Nat) (q : Addr) (g : List Int), qs[i]? = some q → gs[i]? = some g → H q = some (.lst (g.map V.int))) ∧
  gs.length ≤ 1000 ∧ (∀ g ∈ gs, g.length ≤ 1000) ∧ ∀ H', Ex (delS H qs) H' → (∀ (i : Nat) (q : Addr) (g : List Int), qs[i]? = some q → gs[i]? = some g → H' q = some (.lst ((g ++ [0]).map V.int))) → Q (.bl true) H'
def spDue3 (A : Ans) : Sp := fun vs H Q _ => ∃ (n : Int) (ps : List (Int × Int)) (vt : V) (x : Addr), vs = [.int n, vt, .ref x] ∧ Dt H vt (.list (pL ps)) ∧ 1 ≤ n ∧ n ≤ 60 ∧ WebOk n ps ∧
  ((∃ (dx : Addr) (v : V) (gs : List (List Int)), H x = some (.ins A.Parted dx [("groups", v)]) ∧ Dt H v (.list (gL gs)) ∧ gs.length ≤ 1000 ∧ (∀ g ∈ gs, g.length ≤ 1000) ∧ Kd false (.bool (lawParted n ps gs)) H Q) ∨
   (∃ (dx : Addr) (a b c : Int), H x = some (.ins A.Three dx [("one", .int a), ("other", .int b), ("third", .int c)]) ∧ Kd false (.bool (isThree n ps a b c)) H Q))
def pLD (ps : List (Int × Int)) : PyData := .list (pL ps)
def spRight3 : Sp := fun vs H Q _ => ∃ (n : Int) (ps : List (Int × Int)) (os : List (List (Int × Int))) (vt vo : V), vs = [.int n, vt, vo] ∧ Dt H vt (.list (pL ps)) ∧ Dt H vo (.list (os.map pLD)) ∧ 1 ≤ n ∧ n ≤ 60 ∧ WebOk n ps ∧ ps.length < 2000 ∧ os.length ≤ 1000 ∧ (∀ o ∈ os, WebOk n o) ∧ Kd false (.bool true) H Q
theorem spoilt_bad {n : Int} {ps : List (Int × Int)} {g0 : List Int} {gr : List (List Int)} {z : Int} (hz : z ∈ g0) (h0 : 0 ≤ z) : areGroups n ps ((g0 :: gr).map fun g => g ++ [0]) = false := by
  have b : grpBad (g0 ++ [0]) [] = true := by
    unfold grpBad
    have ne : ¬ (g0 ++ [0] = sset (g0 ++ [0])) := fun e => by
      have p := sset_idem_eq e
      have := (List.pairwise_append.mp p).2.2 z hz 0 (List.mem_singleton.mpr rfl)
      omega
    rw [decide_eq_false ne]
    cases decide (g0 ++ [0] = []) <;> rfl
  unfold areGroups
  have g : grpGo ((g0 :: gr).map fun g => g ++ [0]) [] = false := by
    show (!grpBad (g0 ++ [0]) [] && grpGo (gr.map fun g => g ++ [0]) ([] ++ (g0 ++ [0]))) = false
    rw [b]
    rfl
  rw [g]
  rfl
/-- the answers of isinstance -/
structure IsK (K : PySem.W.Frag) (A : Ans) (Z : Addr) : Prop where
  iP : ICl K A.Parted
  iT : ICl K A.Three
  pp : PySem.W.kitOne K (.ref A.Parted) (.ref A.Parted) = some true
  pt : PySem.W.kitOne K (.ref A.Parted) (.ref A.Three) = some false
  pa : PySem.W.kitOne K (.ref A.Parted) (.ref Z) = some true
  pc : PySem.W.kitOne K (.ref A.Parted) (.ref A.Crowd) = some false
  pf : PySem.W.kitOne K (.ref A.Parted) (.ref A.Full) = some false
  ps : PySem.W.kitOne K (.ref A.Parted) (.ref A.Spare) = some false
  tp : PySem.W.kitOne K (.ref A.Three) (.ref A.Parted) = some false
  tt : PySem.W.kitOne K (.ref A.Three) (.ref A.Three) = some true
  ta : PySem.W.kitOne K (.ref A.Three) (.ref Z) = some true
  tc : PySem.W.kitOne K (.ref A.Three) (.ref A.Crowd) = some false
  tf : PySem.W.kitOne K (.ref A.Three) (.ref A.Full) = some false
  ts : PySem.W.kitOne K (.ref A.Three) (.ref A.Spare) = some false
section
variable {A : Ans} {σ : L2.St} {H : Hp} {ta tb : TE} {tas : TA} {E : XK} {n : Int} {ps : List (Int × Int)} {i : Nat} {D : Ends} {tz : TS}
theorem doorP (h : EvAs tas σ H [.int n, .list (pL ps)]) (n1 : 1 ≤ n) (n60 : n ≤ 60) (hW : WebOk n ps) (hl : ps.length < 2000) {H0 : Hp} (e0 : Ex H H0) {Q : VK}
    (k1 : ∀ a b c x dx H', barF n ps = some (a, b, c) → Ex H0 H' → H0 x = none → H' x = some (.ins A.Three dx [("one", .int a), ("other", .int b), ("third", .int c)]) → Q (.ref x) H')
    (k2 : ∀ x dx p qs H', barF n ps = none → Ex H0 H' → H0 x = none → H' x = some (.ins A.Parted dx [("groups", .ref p)]) → Gn H0 H' p qs (groupsF n ps) → Q (.ref x) H') : tCall (spDoorP A) [] E tas σ H0 Q := h H0 e0 _ fun vs H1 e1 hv => by
  obtain ⟨v1, v2, rfl, a1, a2⟩ := hv.two
  cases a1.int_inv
  exact ⟨n, ps, v2, rfl, a2, n1, n60, hW, hl, fun a b c x dx H' hb e nx hx => k1 a b c x dx H' hb (e1.trans e) (fresh_back e1 nx) hx, fun x dx p qs H' hb e nx hx G => k2 x dx p qs H' hb (e1.trans e) (fresh_back e1 nx) hx (G.back e1)⟩
theorem due_P {j : Nat} {x dx : Addr} {v : V} {gs : List (List Int)} (h1 : EvD ta σ H (.int n)) (h2 : EvD tb σ H (.list (pL ps))) (hv : σ[j]? = some (some (.ref x))) (hx : H x = some (.ins A.Parted dx [("groups", v)])) (hg : Dt H v (.list (gL gs))) (n1 : 1 ≤ n) (n60 : n ≤ 60) (hW : WebOk n ps) (gl : gs.length ≤ 1000) (gg : ∀ g ∈ gs, g.length ≤ 1000) :
    EvD (tCall (spDue3 A) [] E (tCons ta (tCons tb (tCons (tVar j) tNil)))) σ H (.bool (lawParted n ps gs)) := fun H1 e1 Q q => h1 H1 e1 _ fun u H2 e2 hu _ => h2 H2 (e1.trans e2) _ fun u2 H3 e3 hu2 _ => ⟨_, hv, by
  cases hu.int_inv
  have e13 := (e1.trans e2).trans e3
  exact ⟨n, ps, u2, x, rfl, hu2, n1, n60, hW, .inl ⟨dx, v, gs, e13 _ _ hx, hg.ex e13, gl, gg, q.back (e2.trans e3)⟩⟩⟩
theorem due_T {j : Nat} {x dx : Addr} {a b c : Int} (h1 : EvD ta σ H (.int n)) (h2 : EvD tb σ H (.list (pL ps))) (hv : σ[j]? = some (some (.ref x))) (hx : H x = some (.ins A.Three dx [("one", .int a), ("other", .int b), ("third", .int c)])) (n1 : 1 ≤ n) (n60 : n ≤ 60) (hW : WebOk n ps) :
    EvD (tCall (spDue3 A) [] E (tCons ta (tCons tb (tCons (tVar j) tNil)))) σ H (.bool (isThree n ps a b c)) := fun H1 e1 Q q => h1 H1 e1 _ fun u H2 e2 hu _ => h2 H2 (e1.trans e2) _ fun u2 H3 e3 hu2 _ => ⟨_, hv, by
  cases hu.int_inv
  have e13 := (e1.trans e2).trans e3
  exact ⟨n, ps, u2, x, rfl, hu2, n1, n60, hW, .inr ⟨dx, a, b, c, e13 _ _ hx, q.back (e2.trans e3)⟩⟩⟩
end
/-! ### all pairs -/
def everyRow (o : Int) : List (Int × Int) := (rgI 0 o).map fun i => (i, o)
def everyF (n : Int) : List (Int × Int) := (rgI 0 n).flatMap everyRow
theorem every_len (n : Int) : ∀ k : Nat, (k : Int) ≤ n → 2 * (((rgI 0 n).take k).flatMap everyRow).length + k = k * k
  | 0, _ => rfl
  | k + 1, h => by
    have ih := every_len n k (by omega)
    rw [rgI_take (by omega), List.flatMap_append, List.length_append, List.flatMap_singleton]
    have e : (everyRow (k : Int)).length = k := by
      unfold everyRow
      rw [List.length_map, rgI_len]
      omega
    have e2 : (k + 1) * (k + 1) = k * k + 2 * k + 1 := by grind
    rw [e]
    omega
theorem every_mem {n : Int} {p : Int × Int} : p ∈ everyF n ↔ 0 ≤ p.1 ∧ p.1 < p.2 ∧ p.2 < n := by
  unfold everyF everyRow
  rw [List.mem_flatMap]
  constructor
  · rintro ⟨o, ho, hp⟩
    obtain ⟨i, hi, rfl⟩ := List.mem_map.mp hp
    have a := rgI_mem.mp ho
    have b := rgI_mem.mp hi
    simp only
    omega
  · rintro ⟨h1, h2, h3⟩
    exact ⟨p.2, rgI_mem.mpr (by omega), List.mem_map.mpr ⟨p.1, rgI_mem.mpr (by omega), rfl⟩⟩
theorem every_ok (n : Int) : WebOk n (everyF n) := by
  refine ⟨fun p hp => every_mem.mp hp, ?_⟩
  unfold everyF
  rw [List.nodup_iff_pairwise_ne, List.pairwise_flatMap]
  refine ⟨fun o _ => List.Pairwise.map (R := fun a b : Int => a ≠ b) _ (fun a b h e => h (congrArg Prod.fst e)) (rgI_nodup o), (rgI_lt 0 n).imp fun {i j} h p hp q hq e => ?_⟩
  obtain ⟨a, _, rfl⟩ := List.mem_map.mp hp
  obtain ⟨b, _, rfl⟩ := List.mem_map.mp hq
  have := congrArg Prod.snd e
  simp only at this
  omega
theorem every_1770 {n : Int} (h : n ≤ 60) : (everyF n).length ≤ 1770 := by
  by_cases c : 0 ≤ n
  · have q := every_len n n.toNat (by omega)
    rw [List.take_of_length_le (by rw [rgI_len]; exact Nat.le_refl _)] at q
    unfold everyF
    have : n.toNat ≤ 60 := by omega
    generalize n.toNat = k at q this
    have e : k * k ≤ 60 * k := Nat.mul_le_mul_right k this
    omega
  · have : rgI 0 n = [] := by
      unfold rgI
      rw [show (n - 0).toNat = 0 by omega]
      rfl
    unfold everyF
    rw [this]
    decide
theorem WebOk.len1770 {n : Int} {ps : List (Int × Int)} (h : WebOk n ps) (hn : n ≤ 60) : ps.length ≤ 1770 := Nat.le_trans (List.Nodup.length_le_of_subset h.nd fun p hp => every_mem.mpr (h.tie p hp)) (every_1770 hn)
section
variable {A : Ans} {K : PySem.W.Frag} {σ : L2.St} {H : Hp} {ta tb : TE} {tas : TA} {E : XK} {n : Int} {ps qs : List (Int × Int)}
theorem d_right3 {os : List (List (Int × Int))} (h : EvAs tas σ H [.int n, pLD ps, .list (os.map pLD)]) (n1 : 1 ≤ n) (n60 : n ≤ 60) (hW : WebOk n ps) (ol : os.length ≤ 1000) (oW : ∀ o ∈ os, WebOk n o) : EvD (tCall spRight3 [] E tas) σ H (.bool true) := d_call h fun vs H1 e1 hv Q q E => by
  obtain ⟨v1, v2, v3, rfl, b1, b2, b3⟩ := hv.three
  cases b1.int_inv
  exact ⟨n, ps, os, v2, v3, rfl, b2, b3, n1, n60, hW, by have := hW.len1770 n60; omega, ol, oW, q⟩
theorem d_doorG (h : EvAs tas σ H [.int n, .list (pL ps)]) (n1 : 1 ≤ n) (n60 : n ≤ 60) (hW : WebOk n ps) (hb : barF n ps = none) (cl : Cls K A.Parted) (no : NoAttr K A.Parted "groups") : EvD (tFld K (tCall (spDoorP A) [] E tas) "groups") σ H (.list (gL (groupsF n ps))) := fun H1 e1 Q q =>
  doorP h n1 n60 hW (by have := hW.len1770 n60; omega) e1 (fun a b c x dx H' hb2 e nx hx => by rw [hb] at hb2; cases hb2) fun x dx p qs H' _ e nx hx G => ⟨x, A.Parted, dx, _, _, rfl, hx, cl, no, rfl, q _ H' e G.dt Fr.no⟩
theorem rd_addP (hz : ps.length + qs.length ≤ 1000000) : RD true rUAdd (pLD ps) (pLD qs) H (pLD (ps ++ qs)) := by
  unfold pLD
  have e : pL (ps ++ qs) = pL ps ++ pL qs := by unfold pL; rw [List.map_append]
  rw [e]
  exact rd_addL (by unfold pL; rw [List.length_map, List.length_map]; exact hz)
end
/-! ### while -/
theorem q_while {c : TT} {tb tz : TS} {D : Ends} {σ : L2.St} {H : Hp} (W : Nat → L2.St → Hp → Prop) (h0 : ∃ m, W m σ H)
    (hs : ∀ m σ' H', W m σ' H' → ∃ b, EvT c σ' H' b ∧ (b = true → ∀ H1, Ex H' H1 → ∀ N : L2.St → Hp → Prop, (∀ σ3 H3, (∃ m', m' < m ∧ W m' σ3 H3) → N σ3 H3) → tb { D with nx := N, ct := N, bk := tz D } σ' H1) ∧ (b = false → ∀ H1, Ex H' H1 → tz D σ' H1)) : tSeq (tWhile c tb) tz D σ H :=
  ⟨W, h0, fun m σ' H' w => by
    obtain ⟨b, hc, h1, h2⟩ := hs m σ' H' w
    refine hc H' (Ex.refl _) _ fun H1 e1 => ?_
    cases b with
    | true =>
      rw [if_pos rfl]
      exact ⟨fun σ3 H3 => ∃ m', m' < m ∧ W m' σ3 H3, fun _ _ x => x, h1 rfl H1 e1 _ fun _ _ x => x⟩
    | false =>
      rw [if_neg (by decide)]
      exact h2 rfl H1 e1⟩
end SC

/-! SCY: a head's look with facts of one's own. -/
namespace SC
open PySem PySem.Spec PyProof.Rows L2
abbrev FxD := PySem.W.Frag → Bool
def obsX (fa : List He.Fa) (fn : List He.DefD) (xs : List FxD) (K : PySem.W.Frag) : Bool × He.AlD := (xs.all fun f => f K, He.obsD fa fn K)
def obsXG (n : Nat) (fa : List He.Fa) (fn : List He.DefD) (xs : List FxD) (g : Addr → Option Obj) : Bool × He.AlD := obsX fa fn xs (He.frG g (He.asD g n))
def hookX (n : Nat) (fa : List He.Fa) (fn : List He.DefD) (xs : List FxD) : PySem.W.Hook where
  α := Bool × He.AlD
  obs := fun s => obsXG n fa fn xs s.heap.get?
  val := fun _ => (true, He.valD fn)
  says := fun _ h => ∃ K : PySem.W.Frag, K.In h ∧ He.SaysD fa fn K ∧ (xs.all fun f => f K) = true
  of := fun _ _ e => ⟨_, He.frG_in, congrArg Prod.snd e, congrArg Prod.fst e⟩
  keeps := fun _ _ _ ⟨K, hK, c, d⟩ k => ⟨K, PySem.W.Frag.In.keeps hK k, c, d⟩
theorem obsXG_eq {n : Nat} {fa : List He.Fa} {fn : List He.DefD} {xs : List FxD} {g : Addr → Option Obj} {s : Shared} (h : ∀ a, g a = s.heap.get? a) : obsXG n fa fn xs g = (hookX n fa fn xs).obs s := by
  have e : g = s.heap.get? := funext h
  rw [e]
  rfl
theorem fx_at {xs : List FxD} {K : PySem.W.Frag} (c : (xs.all fun f => f K) = true) (i : Nat) {f : FxD} (h : xs[i]? = some f) : f K = true := List.all_eq_true.mp c f (List.mem_of_getElem? h)
/-- the class C may be asked for its instances' class -/
def clX (C : Str) : FxD := fun K => He.eqO (PySem.W.findIn K (.ref (He.ga K C)) "__class__") (some (some (.builtin "object.__class__"))) && (He.eqO (PySem.W.specialIn K (.builtin "object.__class__") "__get__") (some (some (.builtin "getset_descriptor.__get__"))) &&
  (decide (PySem.W.takesIn K (.builtin "object.__class__") = some true) && decide (PySem.W.mroIn K (He.ga K C) (.type "object") = some true)))
/-- is C of D? -/
def ktX (C D : Str) (b : Bool) : FxD := fun K => decide (PySem.W.kitOne K (.ref (He.ga K C)) (.ref (He.ga K D)) = some b)
theorem clX_ok {C : Str} {K : PySem.W.Frag} (cl : Cls K (He.ga K C)) (h : clX C K = true) : ICl K (He.ga K C) := by
  obtain ⟨h1, h2⟩ := Bool.and_eq_true_iff.mp h
  obtain ⟨h3, h4⟩ := Bool.and_eq_true_iff.mp h2
  obtain ⟨h5, h6⟩ := Bool.and_eq_true_iff.mp h4
  exact ⟨cl, He.eqO_ok h1, He.eqO_ok h3, of_decide_eq_true h5, of_decide_eq_true h6⟩
theorem ktX_ok {C D : Str} {b : Bool} {K : PySem.W.Frag} (h : ktX C D b K = true) : PySem.W.kitOne K (.ref (He.ga K C)) (.ref (He.ga K D)) = some b := of_decide_eq_true h
end SC

/-! SCI: law 6: plain things, truths. -/
namespace SC
open PySem PySem.Spec PyProof.Rows L2 Evl
/-- over a list or a tuple -/
def iSeq (K : PySem.W.Frag) (tl : TE) : TI := fun σ H R => iList K tl σ H R ∨ iTup K tl σ H R
theorem pi_seqK {X : Cx} {K : PySem.W.Frag} {tg l : Expr} {tl : TE} (e : X.K = K) (h : PE X l tl) : PI X tg l (iSeq K tl) := ⟨fun pins s σ H R I q => q.elim (fun q => (pi_listK e h).run pins s σ H R I q) fun q => (pi_tupK e h).run pins s σ H R I q⟩
section
variable {K : PySem.W.Frag} {σ : L2.St} {H : Hp} {tl : TE} {ds : List PyData} {d : PyData}
theorem dw_seqL (h : EvD tl σ H (.list ds)) : DW (iSeq K tl) σ H ds := fun H1 e1 R k => .inl (dw_list h H1 e1 R k)
theorem dw_seqT (h : EvD tl σ H (.tuple ds)) : DW (iSeq K tl) σ H ds := fun H1 e1 R k => .inr (dw_tup h H1 e1 R k)
end
/-- plain things, k deep -/
def RPl : Nat → PyData → Prop
  | 0, d => ∃ i : Int, d = .int i
  | k + 1, d => (∃ i : Int, d = .int i) ∨ ∃ xs : List PyData, (d = .list xs ∨ d = .tuple xs) ∧ xs.length ≤ 100000 ∧ ∀ y ∈ xs, RPl k y
def RPlain (k : Nat) (ds : List PyData) (d : PyData) : Prop := ∃ x, ds = [x] ∧ RPl k x ∧ d = .bool true
def RTruths (ds : List PyData) (d : PyData) : Prop := ∃ bs : List Bool, ds = [.list (bL bs)] ∧ bs.length ≤ 1000 ∧ d = .bool true
theorem rpl_iL {k : Nat} {xs : List Int} (h : xs.length ≤ 100000) : RPl (k + 1) (.list (iL xs)) := .inr ⟨iL xs, .inl rfl, by unfold iL; rw [List.length_map]; exact h, fun y hy => by
  obtain ⟨i, _, rfl⟩ := List.mem_map.mp hy
  cases k with
  | zero => exact ⟨i, rfl⟩
  | succ k => exact .inl ⟨i, rfl⟩⟩
theorem rpl_gL {k : Nat} {gs : List (List Int)} (h : gs.length ≤ 100000) (hg : ∀ g ∈ gs, g.length ≤ 100000) : RPl (k + 2) (.list (gL gs)) := .inr ⟨gL gs, .inl rfl, by unfold gL; rw [List.length_map]; exact h, fun y hy => by
  obtain ⟨g, hgm, rfl⟩ := List.mem_map.mp hy
  exact rpl_iL (hg g hgm)⟩
theorem rpl_pL {k : Nat} {ps : List (Int × Int)} (h : ps.length ≤ 100000) : RPl (k + 2) (.list (pL ps)) := .inr ⟨pL ps, .inl rfl, by unfold pL; rw [List.length_map]; exact h, fun y hy => by
  obtain ⟨p, _, rfl⟩ := List.mem_map.mp hy
  refine .inr ⟨[.int p.1, .int p.2], .inr rfl, by show 2 ≤ 100000; decide, fun z hz => ?_⟩
  rcases List.mem_cons.mp hz with e | hz
  · rw [e]
    cases k with
    | zero => exact ⟨_, rfl⟩
    | succ k => exact .inl ⟨_, rfl⟩
  · rw [List.mem_singleton.mp hz]
    cases k with
    | zero => exact ⟨_, rfl⟩
    | succ k => exact .inl ⟨_, rfl⟩⟩
theorem rpl_int {k : Nat} {i : Int} : RPl k (.int i) := by
  cases k with
  | zero => exact ⟨i, rfl⟩
  | succ k => exact .inl ⟨i, rfl⟩
/-! ### answers told, of which kind they may be -/
def SAns (A : Ans) (n : Int) (ps : List (Int × Int)) (H : Hp) (x : Addr) : Prop := (∃ dx j, H x = some (.ins A.Spare dx [("ties", .int j)])) ∨ (∃ (dx p : Addr) (xs : List Int), H x = some (.ins A.Crowd dx [("some", .ref p)]) ∧ H p = some (.lst (xs.map V.int)) ∧ xs.length < 64) ∨
  ∃ dx p gs, H x = some (.ins A.Full dx [("groups", .ref p)]) ∧ Dt H (.ref p) (.list (gL gs)) ∧ GroupsOk n ps gs
def SSpl (A : Ans) (n : Int) (ps : List (Int × Int)) (H : Hp) (x : Addr) : Prop := (∃ dx a b c, H x = some (.ins A.Three dx [("one", .int a), ("other", .int b), ("third", .int c)])) ∨
  ∃ dx p gs, H x = some (.ins A.Parted dx [("groups", .ref p)]) ∧ Dt H (.ref p) (.list (gL gs)) ∧ GroupsOk n ps gs
theorem SAns.ex {A : Ans} {n : Int} {ps : List (Int × Int)} {H H' : Hp} {x : Addr} (e : Ex H H') (h : SAns A n ps H x) : SAns A n ps H' x := by
  rcases h with ⟨dx, j, h⟩ | ⟨dx, p, xs, h, h2, h3⟩ | ⟨dx, p, gs, h, h2, h3⟩
  · exact .inl ⟨dx, j, e _ _ h⟩
  · exact .inr (.inl ⟨dx, p, xs, e _ _ h, e _ _ h2, h3⟩)
  · exact .inr (.inr ⟨dx, p, gs, e _ _ h, h2.ex e, h3⟩)
theorem SSpl.ex {A : Ans} {n : Int} {ps : List (Int × Int)} {H H' : Hp} {x : Addr} (e : Ex H H') (h : SSpl A n ps H x) : SSpl A n ps H' x := by
  rcases h with ⟨dx, a, b, c, h⟩ | ⟨dx, p, gs, h, h2, h3⟩
  · exact .inl ⟨dx, a, b, c, e _ _ h⟩
  · exact .inr ⟨dx, p, gs, e _ _ h, h2.ex e, h3⟩
theorem crowdGo_len (ps : List (Int × Int)) : ∀ (f : Nat) (left : List Int), (crowdGo ps f left).length ≤ f
  | 0, _ => Nat.le_refl _
  | f + 1, left => by
    show (if left = [] then [] else bestF ps left :: crowdGo ps f (left.filter fun y => nearF ps (bestF ps left) y)).length ≤ f + 1
    split
    · exact Nat.zero_le _
    · rw [List.length_cons]
      exact Nat.succ_le_succ (crowdGo_len ps f _)
theorem grpTo_mem {n : Int} {ps : List (Int × Int)} : ∀ (xs : List Int) (gs : List (List Int)), ∀ g ∈ xs.foldl (grpStep n ps) gs, g ∈ gs ∨ ∃ x ∈ xs, g = grpRow n ps x
  | [], gs, g, h => .inl h
  | x :: r, gs, g, h => by
    rw [List.foldl_cons] at h
    rcases grpTo_mem r _ g h with h1 | ⟨y, hy, e⟩
    · unfold grpStep at h1
      split at h1
      · exact .inl h1
      · rcases List.mem_append.mp h1 with h2 | h2
        · exact .inl h2
        · exact .inr ⟨x, List.mem_cons_self, List.mem_singleton.mp h2⟩
    · exact .inr ⟨y, List.mem_cons_of_mem _ hy, e⟩
theorem groupsF_ok {n : Int} {ps o : List (Int × Int)} (n60 : n ≤ 60) (oW : WebOk n o) : GroupsOk n o (groupsF n ps) := by
  have lg := grpTo_len n ps (rgI 0 n)
  rw [rgI_len] at lg
  have mem : ∀ g ∈ groupsF n ps, ∃ x ∈ rgI 0 n, g = grpRow n ps x := fun g hg => (grpTo_mem (rgI 0 n) [] g hg).resolve_left fun z => nomatch z
  refine groupsOk_of n60 oW.inWeb (by have := oW.len60 n60; omega) (by show (grpTo n ps (rgI 0 n)).length ≤ 1000; omega) (fun g hg => ?_) fun g hg y hy => ?_
  · obtain ⟨x, hx, rfl⟩ := mem g hg
    have := rgI_mem.mp hx
    have l1 : (grpRow n ps x).length ≤ (rgI x n).length := List.length_filter_le _ _
    unfold rgI at l1
    rw [List.length_map, List.length_range] at l1
    omega
  · obtain ⟨x, hx, rfl⟩ := mem g hg
    have h1 := rgI_mem.mp hx
    have h2 := rgI_mem2.mp (List.mem_filter.mp hy).1
    omega
/-! ### comprehensions over instances that tell truths -/
def DWV (wi : TI) (σ : L2.St) (H : Hp) (Pv : Hp → List V → Prop) : Prop := ∀ H1, Ex H H1 → ∀ R : It → Hp → Prop, (∀ J H2 xs, Ex H1 H2 → Pv H2 xs → Walk J xs.length (fun H' => Ex H2 H') (fun i H3 x H4 => Ex H3 H4 ∧ xs[i]? = some x) → R J H2) → wi σ H1 R
theorem lc_bools {wi : TI} {g : TG} {tt : TT} {te : TE} {vs : List Nat} {σ : L2.St} {H : Hp} {Pv : Hp → List V → Prop} (h : DWV wi σ H Pv)
    (ht : ∀ xs H1, Ex H H1 → Pv H1 xs → xs.length ≤ 100 ∧ ∀ x ∈ xs, ∀ H2, Ex H1 H2 → ∃ b, Turn1 false g tt te vs σ H2 x true (.bool b)) {H0 : Hp} (e0 : Ex H H0) {Q : VK} (q : ∀ v H' bs, Ex H0 H' → Dt H' v (.list (bL bs)) → bs.length ≤ 100 → Q v H') : tLc wi g tt te vs σ H0 Q := h H0 e0 _ fun J H1 xs e1 hP w Dl hD => by
  obtain ⟨hl, hx⟩ := ht xs H1 (e0.trans e1) hP
  refine lc_it w (fun i H' => Ex H1 H' ∧ ∃ bs : List Bool, H' Dl = some (.lst (bs.map V.bl)) ∧ bs.length = i) ⟨Ex.new hD, [], upd_same, rfl⟩ (fun i H' _ p => p.1) ?_ ?_
  · rintro i x H2 H3 hi ⟨e2, bs, ha, hb⟩ ⟨e3, hxi⟩
    obtain ⟨b, T⟩ := hx x (List.mem_of_getElem? hxi) H3 (e2.trans e3)
    obtain ⟨σ2, w2, hg, hT, hE⟩ := T.ex
    refine hg _ ⟨w2, hT H3 (Ex.refl _) _ fun H4 e4 => ?_⟩
    show te σ2 H4 _
    refine hE rfl H4 e4 _ fun y H5 e5 hy _ => ⟨bs.map V.bl, e5 _ _ (e4 _ _ (e3 _ _ ha)), Nat.lt_of_le_of_lt (show (bs.map V.bl).length ≤ 100 by rw [List.length_map, hb]; omega) (by decide), ?_⟩
    cases hy.bl_inv
    exact ⟨Ex.mut (((e2.trans e3).trans e4).trans e5) hD, bs ++ [b], by rw [upd_same, List.map_append]; rfl, by rw [List.length_append, hb]; rfl⟩
  · rintro H' ⟨e2, bs, ha, hb⟩
    refine q _ H' bs (e1.trans e2) (.lst ha ?_) (by omega)
    clear ha hb
    induction bs with
    | nil => exact .nil
    | cons b r ih => exact .cons (.bl b) ih
end SC

/-! SCL2: sorted pairs, lists repeated. -/
namespace SC
open PySem PySem.Spec PyProof.Rows L2 Evl
/-- the pair at a value -/
def pairAt (H : Hp) : V → Int × Int
  | .ref t => match H t with
    | some (.tup [.int i, .int j]) => (i, j)
    | _ => (0, 0)
  | _ => (0, 0)
section
variable {K : PySem.W.Frag} {w : World} {σ : L2.St} {H : Hp} {te : TE}
theorem pairs_at : ∀ {xs : List V} {ps : List (Int × Int)}, DtAll H xs (pL ps) → xs.map (pairAt H) = ps ∧ ∀ x ∈ xs, ∃ t, x = V.ref t ∧ H t = some (.tup [.int (pairAt H x).1, .int (pairAt H x).2])
  | _, [], h => by cases h; exact ⟨rfl, fun x h => nomatch h⟩
  | _, p :: r, h => by
    cases h with
    | cons a b =>
      obtain ⟨c, ys, rfl, hc, hy⟩ := Dt.tup_inv (show Dt _ _ (.tuple [.int p.1, .int p.2]) from a)
      obtain ⟨u1, u2, rfl, q1, q2⟩ := hy.two
      cases q1.int_inv
      cases q2.int_inv
      have e : pairAt H (.ref c) = p := by
        simp only [pairAt, hc]
      obtain ⟨e1, e2⟩ := pairs_at b
      refine ⟨by rw [List.map_cons, e, e1], fun x hx => ?_⟩
      rcases List.mem_cons.mp hx with z | z
      · rw [z, e]
        exact ⟨c, rfl, hc⟩
      · exact e2 x z
theorem d_sortedPO {ps : List (Int × Int)} (h : EvD te σ H (.list (pL ps))) (hs : ps.Pairwise fun p q => SrtO.lexB q p = false) : EvR true (tCB (rUSorted K w) (tCons te tNil)) σ H (.list (pL ps)) := fun H1 e1 Q q =>
  h H1 e1 _ fun v H2 e2 hv _ => by
    obtain ⟨a, xs, rfl, ha, hx⟩ := hv.lst_inv
    obtain ⟨k1, k2⟩ := pairs_at hx
    refine .inr (.inr (.inr ⟨a, xs, pairAt H2, rfl, sq_of ha, k2, fun ys p h1 h2 hp => ?_⟩))
    have sx : SrtO.Srtd (ltP (pairAt H2)) xs := by
      rw [← k1] at hs
      exact List.pairwise_map.mp hs
    rw [SrtO.stb_uniq (ltP_swo (pairAt H2)) h1 sx h2]
    exact q _ _ (e2.trans (Ex.new hp)) (.lst upd_same (hx.ex (Ex.new hp))) fun _ => ⟨p, rfl, fresh_back e2 hp⟩
theorem rd_rep {bs : List Bool} {k : Nat} (hk : bs.length * k ≤ 100000) (hk2 : k ≤ 100000) : RD true rRep (.list (bL bs)) (.int (k : Int)) H (.list (bL (List.replicate k bs).flatten)) := fun u v H1 _ hu hv Q q => by
  cases hv.int_inv
  obtain ⟨a, xs, rfl, ha, hx⟩ := hu.lst_inv
  cases hx.bL_inv
  refine ⟨a, (k : Int), _, rfl, rfl, ha, by omega, by omega, ?_, fun p hp => q _ _ (Ex.new hp) (.lst upd_same ?_) fun _ => ⟨p, rfl, hp⟩⟩
  · rw [List.length_map, sizeLine_eq]
    show bs.length * k ≤ _
    omega
  · show DtAll _ (List.replicate k (bs.map V.bl)).flatten _
    have e : (List.replicate k (bs.map V.bl)).flatten = ((List.replicate k bs).flatten).map V.bl := by
      rw [List.map_flatten, List.map_replicate]
    rw [e]
    generalize (List.replicate k bs).flatten = l
    induction l with
    | nil => exact .nil
    | cons b r ih => exact .cons (.bl b) ih
end
/-! lists of truths compared -/
theorem lay_bL : ∀ (ns : List Bool), PyData.canLayAll0 (bL ns) = true
  | [] => by simp [bL, PyData.canLayAll0]
  | n :: ns => by
    have h := lay_bL ns
    show PyData.canLayAll0 (.bool n :: bL ns) = true
    simp [PyData.canLayAll0, PyData.canLay0, h]
theorem dep_bL : ∀ (ns : List Bool), PyData.depthAll (bL ns) ≤ 1
  | [] => by simp [bL, PyData.depthAll]
  | n :: ns => by
    have h := dep_bL ns
    show PyData.depthAll (.bool n :: bL ns) ≤ 1
    simp only [PyData.depthAll, PyData.depth]
    omega
theorem sh_bL (ns : List Bool) : SeqAt.shaped (.list (bL ns)) = true := by
  have h1 := dep_bL ns
  have h2 : PyData.depth (.list (bL ns)) ≤ 64 := by
    simp only [PyData.depth]
    omega
  show (PyData.canLay0 (.list (bL ns)) && decide (PyData.depth (.list (bL ns)) ≤ 64)) = true
  rw [Bool.and_eq_true]
  exact ⟨by simp only [PyData.canLay0]; exact lay_bL ns, decide_eq_true h2⟩
theorem eqvAll_bL : ∀ (ns ms : List Bool), PyData.eqvAll (bL ns) (bL ms) = decide (ns = ms)
  | [], [] => rfl
  | [], _ :: _ => rfl
  | _ :: _, [] => rfl
  | n :: ns, m :: ms => by
    show PyData.eqvAll (.bool n :: bL ns) (.bool m :: bL ms) = _
    have h := eqvAll_bL ns ms
    simp only [PyData.eqvAll, eqv_bool, h]
    by_cases e : n = m
    · by_cases e2 : ns = ms
      · subst e e2; simp
      · simp [e2]
    · simp [e]
theorem eqv_bL (ns ms : List Bool) : PyData.eqv (.list (bL ns)) (.list (bL ms)) = decide (ns = ms) := by
  simp only [PyData.eqv]
  exact eqvAll_bL ns ms
theorem rd_eqBL {K : PySem.W.Frag} {H : Hp} {i j : List Bool} : RD false (rEqD K) (.list (bL i)) (.list (bL j)) H (.bool (decide (i = j))) := by
  rw [← eqv_bL]
  exact rd_eqD (sh_bL i) (sh_bL j)
theorem rd_neBL {K : PySem.W.Frag} {H : Hp} {i j : List Bool} : RD false (rNeD K) (.list (bL i)) (.list (bL j)) H (.bool (!decide (i = j))) := by
  rw [← eqv_bL]
  exact rd_neD (sh_bL i) (sh_bL j)
theorem rd_eqQ {K : PySem.W.Frag} {H : Hp} {i j : List (Int × Int)} : RD false (rEqD K) (.list (pL i)) (.list (pL j)) H (.bool (decide (i = j))) := by
  rw [← eqv_pL]
  exact rd_eqD (sh_pL i) (sh_pL j)
end SC

/-! SCV: law 2's plain part: the most ties, and webs that have them. -/
namespace SC
/-! ### counting ties between two lists of places -/
def cn (ps : List (Int × Int)) (l : List Int) (x : Int) : Nat := (l.filter fun y => nearF ps x y).length
def dS (ps : List (Int × Int)) (l k : List Int) : Nat := (l.map (cn ps k)).sum
theorem cn_cons (ps : List (Int × Int)) (y : Int) (l : List Int) (x : Int) : cn ps (y :: l) x = (if nearF ps x y = true then 1 else 0) + cn ps l x := by
  unfold cn
  by_cases h : nearF ps x y = true
  · rw [List.filter_cons_of_pos h, if_pos h, List.length_cons]; exact Nat.add_comm _ _
  · rw [List.filter_cons_of_neg h, if_neg h]; exact (Nat.zero_add _).symm
theorem dS_cons (ps : List (Int × Int)) (x : Int) (l k : List Int) : dS ps (x :: l) k = cn ps k x + dS ps l k := by
  unfold dS
  rw [List.map_cons, List.sum_cons]
theorem sum_if (ps : List (Int × Int)) (x : Int) : ∀ k : List Int, (k.map fun y => if nearF ps y x = true then 1 else 0).sum = cn ps k x
  | [] => rfl
  | y :: k => by
    rw [List.map_cons, List.sum_cons, sum_if ps x k, cn_cons, nearF_symm ps y x]
theorem dS_nil (ps : List (Int × Int)) : ∀ k : List Int, dS ps k [] = 0
  | [] => rfl
  | x :: k => by rw [dS_cons, dS_nil ps k]; rfl
theorem dS_symm (ps : List (Int × Int)) : ∀ l k : List Int, dS ps l k = dS ps k l
  | [], k => by rw [dS_nil]; rfl
  | x :: l, k => by
    rw [dS_cons, dS_symm ps l k]
    unfold dS
    have e : k.map (cn ps (x :: l)) = k.map fun y => (if nearF ps y x = true then 1 else 0) + cn ps l y := List.map_congr_left fun y _ => cn_cons ps x l y
    rw [e, sum_add, sum_if]
theorem dS_split (ps : List (Int × Int)) (f : Int → Bool) : ∀ l k : List Int, dS ps l k = dS ps (l.filter f) k + dS ps (l.filter fun y => !f y) k
  | [], k => rfl
  | x :: l, k => by
    rw [dS_cons, dS_split ps f l k]
    by_cases h : f x = true
    · rw [List.filter_cons_of_pos h, List.filter_cons_of_neg (by simp [h]), dS_cons]; omega
    · rw [List.filter_cons_of_neg h, List.filter_cons_of_pos (by simpa using h), dS_cons]; omega
theorem cn_split (ps : List (Int × Int)) (f : Int → Bool) (x : Int) : ∀ l : List Int, cn ps l x = cn ps (l.filter f) x + cn ps (l.filter fun y => !f y) x
  | [] => rfl
  | y :: l => by
    rw [cn_cons, cn_split ps f x l]
    by_cases h : f y = true
    · rw [List.filter_cons_of_pos h, List.filter_cons_of_neg (by simp [h]), cn_cons]; omega
    · rw [List.filter_cons_of_neg h, List.filter_cons_of_pos (by simpa using h), cn_cons]; omega
theorem sum_le {l : List Int} {f : Int → Nat} {c : Nat} (h : ∀ x ∈ l, f x ≤ c) : (l.map f).sum ≤ l.length * c := by
  induction l with
  | nil => simp
  | cons x l ih =>
    rw [List.map_cons, List.sum_cons, List.length_cons, Nat.succ_mul]
    have := h x List.mem_cons_self
    have := ih fun y hy => h y (List.mem_cons_of_mem _ hy)
    omega
theorem sum_le_eq {l : List Int} {f : Int → Nat} {c : Nat} (h : ∀ x ∈ l, f x ≤ c) (e : (l.map f).sum = l.length * c) : ∀ x ∈ l, f x = c := by
  induction l with
  | nil => intro x hx; cases hx
  | cons x l ih =>
    rw [List.map_cons, List.sum_cons, List.length_cons, Nat.succ_mul] at e
    have h1 := h x List.mem_cons_self
    have h2 := sum_le fun y hy => h y (List.mem_cons_of_mem _ hy)
    intro y hy
    rcases List.mem_cons.mp hy with q | q
    · rw [q]; omega
    · exact ih (fun y hy => h y (List.mem_cons_of_mem _ hy)) (by omega) y q
theorem cn_le (ps : List (Int × Int)) (l : List Int) (x : Int) : cn ps l x ≤ l.length := List.length_filter_le _ _
theorem cn_all {ps : List (Int × Int)} {l : List Int} {x : Int} (h : cn ps l x = l.length) : ∀ y ∈ l, nearF ps x y = true := by
  have e : l.filter (fun y => nearF ps x y) = l := List.filter_sublist.eq_of_length h
  intro y hy
  rw [← e] at hy
  exact (List.mem_filter.mp hy).2
theorem cn_none {ps : List (Int × Int)} {l : List Int} {x : Int} (h : cn ps l x = 0) : ∀ y ∈ l, nearF ps x y = false := by
  have e : l.filter (fun y => nearF ps x y) = [] := List.eq_nil_of_length_eq_zero h
  intro y hy
  cases q : nearF ps x y with
  | false => rfl
  | true =>
    have : y ∈ l.filter (fun y => nearF ps x y) := List.mem_filter.mpr ⟨hy, q⟩
    rw [e] at this
    cases this
/-- the best has the most ties -/
theorem best_most {ps : List (Int × Int)} {left : List Int} (h : left ≠ []) : ∀ x ∈ left, cn ps left x ≤ cn ps left (bestF ps left) := by
  intro x hx
  have hn : left.map (cntF ps left) ≠ [] := by simpa using h
  obtain ⟨m1, m2⟩ := mxL_ok hn
  have q := m2 _ (List.mem_map.mpr ⟨x, hx, rfl⟩)
  have ix := bestF_ix (ps := ps) h
  have e : cntF ps left (bestF ps left) = mxL (left.map (cntF ps left)) := by
    have hl := List.idxOf_lt_length_iff.mpr m1
    have g := List.getElem_idxOf hl
    unfold bestF
    rw [List.getElem_map] at g
    rw [List.getD_eq_getElem?_getD, List.getElem?_eq_getElem ix]
    exact g
  rw [← e] at q
  unfold cntF at q
  unfold cn
  omega
/-! ### the greedy crowd's drops -/
def dropGo (ps : List (Int × Int)) : Nat → List Int → List Nat
  | 0, _ => []
  | f + 1, left => if left = [] then [] else (left.filter fun y => !nearF ps (bestF ps left) y).length :: dropGo ps f (left.filter fun y => nearF ps (bestF ps left) y)
def sq2 (l : List Nat) : Nat := (l.map fun a => a * a).sum
def CoT (ps : List (Int × Int)) (l : List Int) : Prop := ∀ x ∈ l, ∀ y ∈ l, nearF ps x y = true → ∀ z ∈ l, nearF ps x z = true ∨ nearF ps y z = true
theorem drop_main {n : Int} {ps : List (Int × Int)} (hW : WebOk n ps) : ∀ (f : Nat) (left : List Int), left.length ≤ f →
    (dropGo ps f left).sum = left.length ∧ (dropGo ps f left).length = (crowdGo ps f left).length ∧ (∀ a ∈ dropGo ps f left, 1 ≤ a) ∧ dS ps left left + sq2 (dropGo ps f left) ≤ left.length * left.length ∧
    (dS ps left left + sq2 (dropGo ps f left) = left.length * left.length → CoT ps left)
  | 0, left, h => by
    have e : left = [] := List.eq_nil_of_length_eq_zero (by omega)
    subst e
    exact ⟨rfl, rfl, fun _ h => (nomatch h), Nat.le_refl _, fun _ x hx => nomatch hx⟩
  | f + 1, left, h => by
    by_cases hn : left = []
    · subst hn
      exact ⟨rfl, rfl, fun _ h => (nomatch h), Nat.le_refl _, fun _ x hx => nomatch hx⟩
    · have less := left_less hW hn
      have big := best_most (ps := ps) hn
      have bm := bestF_mem (ps := ps) hn
      have bs := nearF_self hW (bestF ps left)
      have eg : dropGo ps (f + 1) left = (left.filter fun y => !nearF ps (bestF ps left) y).length :: dropGo ps f (left.filter fun y => nearF ps (bestF ps left) y) := if_neg hn
      have ec : crowdGo ps (f + 1) left = bestF ps left :: crowdGo ps f (left.filter fun y => nearF ps (bestF ps left) y) := if_neg hn
      rw [eg, ec]
      have ebest : cn ps left (bestF ps left) = (left.filter fun y => nearF ps (bestF ps left) y).length := rfl
      rw [ebest] at big
      generalize bestF ps left = b at less big bm bs
      have fl := filter_not (l := left) (f := fun y => nearF ps b y)
      obtain ⟨i1, i2, i3, i4, i5⟩ := drop_main hW f (left.filter fun y => nearF ps b y) (by omega)
      have bD : b ∈ left.filter (fun y => !nearF ps b y) := List.mem_filter.mpr ⟨bm, by rw [bs]; rfl⟩
      have s1 := dS_split ps (fun y => nearF ps b y) left left
      have s2 := dS_split ps (fun y => nearF ps b y) left (left.filter fun y => nearF ps b y)
      rw [dS_symm ps (left.filter fun y => nearF ps b y) left, s2] at s1
      have sub : ∀ y, y ∈ left.filter (fun y => nearF ps b y) ∨ y ∈ left.filter (fun y => !nearF ps b y) ↔ y ∈ left := fun y => by
        rw [List.mem_filter, List.mem_filter]
        cases nearF ps b y <;> simp
      have sp : ∀ x, cn ps left x = cn ps (left.filter fun y => nearF ps b y) x + cn ps (left.filter fun y => !nearF ps b y) x := fun x => cn_split ps (fun y => nearF ps b y) x left
      generalize left.filter (fun y => nearF ps b y) = R at *
      generalize left.filter (fun y => !nearF ps b y) = D at *
      have dl : D.length ≥ 1 := List.length_pos_of_mem bD
      have u1 : dS ps D left ≤ D.length * R.length := sum_le fun x hx => big x ((sub x).mp (.inr hx))
      have u2 : dS ps D R ≤ D.length * R.length := sum_le fun x hx => cn_le ps R x
      have ell : left.length = R.length + D.length := by omega
      have sq : left.length * left.length = R.length * R.length + 2 * (D.length * R.length) + D.length * D.length := by rw [ell]; grind
      have es : sq2 (D.length :: dropGo ps f R) = D.length * D.length + sq2 (dropGo ps f R) := by unfold sq2; rw [List.map_cons, List.sum_cons]
      refine ⟨by rw [List.sum_cons, i1]; omega, by rw [List.length_cons, List.length_cons, i2], fun a ha => ?_, by rw [es]; omega, fun e => ?_⟩
      · rcases List.mem_cons.mp ha with q | q
        · omega
        · exact i3 a q
      · rw [es] at e
        have c1 := i5 (by omega)
        have e2 : dS ps D R = D.length * R.length := by omega
        have e1 : dS ps D left = D.length * R.length := by omega
        have k1 := sum_le_eq (fun x hx => cn_le ps R x) e2
        have k2 := sum_le_eq (fun x hx => big x ((sub x).mp (.inr hx))) e1
        have nD : ∀ x ∈ D, ∀ y ∈ R, nearF ps x y = true := fun x hx => cn_all (k1 x hx)
        have nI : ∀ x ∈ D, ∀ y ∈ D, nearF ps x y = false := fun x hx => cn_none (by have := sp x; have := k1 x hx; have := k2 x hx; omega)
        intro x hx y hy hxy z hz
        rcases (sub x).mpr hx with x1 | x1 <;> rcases (sub y).mpr hy with y1 | y1 <;> rcases (sub z).mpr hz with z1 | z1
        · exact c1 x x1 y y1 hxy z z1
        · left; rw [nearF_symm]; exact nD z z1 x x1
        · right; exact nD y y1 z z1
        · left; rw [nearF_symm]; exact nD z z1 x x1
        · left; exact nD x x1 z z1
        · right; rw [nearF_symm]; exact nD z z1 y y1
        · left; exact nD x x1 z z1
        · have := nI x x1 y y1; rw [hxy] at this; cases this
/-! ### sizes alike -/
theorem two_most (n m : Int) : 2 * mostT n m = n * n - n - m * (n / m * (n / m - 1)) - 2 * (n % m * (n / m)) := by
  have ev : ∀ a : Int, 2 * (a * (a - 1) / 2) = a * (a - 1) := fun a => by
    have : a * (a - 1) % 2 = 0 := by
      rcases Int.emod_two_eq a with h | h
      · rw [Int.mul_emod, h]; simp
      · rw [Int.mul_emod, Int.sub_emod, h]; simp
    omega
  have e1 := ev n
  have e2 := ev (n / m)
  unfold mostT
  generalize n % m * (n / m) = s at *
  generalize n / m * (n / m - 1) / 2 = t at *
  rw [← e2]
  have e3 : m * (2 * t) = 2 * (m * t) := by rw [Int.mul_left_comm]
  have e4 : n * (n - 1) = n * n - n := by rw [Int.mul_sub, Int.mul_one]
  omega
def sumI (l : List Int) : Int := l.sum
theorem gap_nn (a q : Int) : 0 ≤ (a - q) * (a - q - 1) := by
  by_cases h : a - q ≤ 0
  · exact Int.mul_nonneg_of_nonpos_of_nonpos h (by omega)
  · exact Int.mul_nonneg (by omega) (by omega)
theorem gap_zero {a q : Int} (h : (a - q) * (a - q - 1) = 0) : a = q ∨ a = q + 1 := by
  rcases Int.mul_eq_zero.mp h with h | h <;> omega
theorem gap_sum (q : Int) : ∀ l : List Int, (l.map fun a => a * a).sum = (2 * q + 1) * l.sum - (l.length : Int) * (q * (q + 1)) + (l.map fun a => (a - q) * (a - q - 1)).sum
  | [] => by simp
  | a :: l => by
    have ih := gap_sum q l
    simp only [List.map_cons, List.sum_cons, List.length_cons, ih, Int.natCast_add, Int.natCast_one]
    grind
theorem gaps_nn (q : Int) : ∀ l : List Int, 0 ≤ (l.map fun a => (a - q) * (a - q - 1)).sum
  | [] => Int.le_refl _
  | a :: l => by
    rw [List.map_cons, List.sum_cons]
    have := gap_nn a q
    have := gaps_nn q l
    omega
theorem gaps_zero (q : Int) : ∀ l : List Int, (l.map fun a => (a - q) * (a - q - 1)).sum = 0 → ∀ a ∈ l, a = q ∨ a = q + 1
  | [], _, _, h => nomatch h
  | a :: l, e, b, hb => by
    rw [List.map_cons, List.sum_cons] at e
    have h1 := gap_nn a q
    have h2 := gaps_nn q l
    rcases List.mem_cons.mp hb with h | h
    · rw [h]; exact gap_zero (by omega)
    · exact gaps_zero q l (by omega) b h
theorem sizes_most {l : List Int} {m : Int} (m1 : 1 ≤ m) (hl : (l.length : Int) ≤ m) (h1 : ∀ a ∈ l, 1 ≤ a) : l.sum * l.sum - (l.map fun a => a * a).sum ≤ 2 * mostT l.sum m ∧
    (l.sum * l.sum - (l.map fun a => a * a).sum = 2 * mostT l.sum m → (l.length : Int) = min l.sum m ∧ ∀ a ∈ l, a = l.sum / m ∨ a = l.sum / m + 1) := by
  have nn : ∀ l : List Int, (∀ a ∈ l, 1 ≤ a) → (l.length : Int) ≤ l.sum := by
    intro l
    induction l with
    | nil => intro _; exact Int.le_refl _
    | cons a l ih =>
      intro h
      have := h a List.mem_cons_self
      have := ih fun b hb => h b (List.mem_cons_of_mem _ hb)
      rw [List.length_cons, List.sum_cons]
      omega
  have n0 := nn l h1
  have g := gap_sum (l.sum / m) l
  have g0 := gaps_nn (l.sum / m) l
  have gz := gaps_zero (l.sum / m) l
  rw [two_most]
  have dm := Int.mul_ediv_add_emod l.sum m
  have r0 := Int.emod_nonneg l.sum (show m ≠ 0 by omega)
  have r1 := Int.emod_lt_of_pos l.sum (show 0 < m by omega)
  have q0 : 0 ≤ l.sum / m := Int.ediv_nonneg (by omega) (by omega)
  generalize (l.map fun a => (a - l.sum / m) * (a - l.sum / m - 1)).sum = G at *
  rw [g]
  generalize l.sum / m = q at *
  generalize l.sum % m = s at *
  have en : l.sum = m * q + s := dm.symm
  have big : 0 ≤ (m - l.length) * (q * (q + 1)) := Int.mul_nonneg (by omega) (Int.mul_nonneg q0 (by omega))
  have id : (2 * q + 1) * l.sum - (l.length : Int) * (q * (q + 1)) = l.sum + m * (q * (q - 1)) + 2 * (s * q) + (m - l.length) * (q * (q + 1)) := by rw [en]; grind
  rw [id]
  generalize hB : (m - (l.length : Int)) * (q * (q + 1)) = B at *
  generalize l.sum * l.sum = S2 at *
  generalize m * (q * (q - 1)) = U at *
  generalize s * q = W at *
  refine ⟨by omega, fun e => ?_⟩
  have B0 : B = 0 := by omega
  have G0 : G = 0 := by omega
  refine ⟨?_, gz G0⟩
  rw [B0] at hB
  rcases Int.mul_eq_zero.mp hB with h | h
  · have : m ≤ l.sum := by omega
    rw [Int.min_eq_right this]
    omega
  · have hq : q = 0 := by rcases Int.mul_eq_zero.mp h with h | h <;> omega
    rw [hq, Int.mul_zero, Int.zero_add] at en
    have all1 : ∀ a ∈ l, a = 1 := fun a ha => by have := gz G0 a ha; have := h1 a ha; omega
    have : ∀ l : List Int, (∀ a ∈ l, a = 1) → l.sum = l.length := by
      intro l
      induction l with
      | nil => intro _; rfl
      | cons a l ih =>
        intro h
        rw [List.sum_cons, h a List.mem_cons_self, ih fun b hb => h b (List.mem_cons_of_mem _ hb), List.length_cons]
        omega
    have e3 := this l all1
    rw [Int.min_eq_left (by omega)]
    omega
/-! ### a web without a greedy crowd -/
theorem dS_all {n : Int} {ps : List (Int × Int)} (hW : WebOk n ps) : dS ps (rgI 0 n) (rgI 0 n) = 2 * ps.length := deg_sum hW
theorem sum_cast : ∀ l : List Nat, (l.map fun (a : Nat) => (a : Int)).sum = ((l.sum : Nat) : Int)
  | [] => rfl
  | a :: l => by rw [List.map_cons, List.sum_cons, sum_cast l, List.sum_cons]; omega
theorem sq_cast : ∀ l : List Nat, ((l.map fun (a : Nat) => (a : Int)).map fun a => a * a).sum = ((sq2 l : Nat) : Int)
  | [] => rfl
  | a :: l => by
    have := sq_cast l
    unfold sq2 at *
    rw [List.map_cons, List.map_cons, List.sum_cons, this, List.map_cons, List.sum_cons]
    simp
theorem tur {n m : Int} {ps : List (Int × Int)} (hW : WebOk n ps) (n1 : 1 ≤ n) (m1 : 1 ≤ m) (hc : ((crowdF n ps).length : Int) ≤ m) (hp : mostT n m ≤ (ps.length : Int)) : (ps.length : Int) = mostT n m ∧ CoT ps (rgI 0 n) := by
  obtain ⟨i1, i2, i3, i4, i5⟩ := drop_main hW n.toNat (rgI 0 n) (by rw [rgI_len]; exact Nat.le_refl _)
  unfold crowdF at hc
  rw [← i2] at hc
  rw [rgI_len] at i1 i4 i5
  rw [dS_all hW] at i4 i5
  obtain ⟨s1, s2⟩ := sizes_most (l := (dropGo ps n.toNat (rgI 0 n)).map fun (a : Nat) => (a : Int)) m1 (by rw [List.length_map]; exact hc) (fun a ha => by
    obtain ⟨b, hb, rfl⟩ := List.mem_map.mp ha
    have := i3 b hb
    omega)
  rw [sum_cast, i1, sq_cast] at s1
  have e : ((n.toNat : Nat) : Int) = n := by omega
  rw [e] at s1
  have i4' : (2 * (ps.length : Int)) + (sq2 (dropGo ps n.toNat (rgI 0 n)) : Int) ≤ n * n := by
    have : ((2 * ps.length + sq2 (dropGo ps n.toNat (rgI 0 n)) : Nat) : Int) ≤ ((n.toNat * n.toNat : Nat) : Int) := Int.ofNat_le.mpr i4
    rw [Int.natCast_mul, e] at this
    omega
  refine ⟨by omega, i5 ?_⟩
  have : ((2 * ps.length + sq2 (dropGo ps n.toNat (rgI 0 n)) : Nat) : Int) = ((n.toNat * n.toNat : Nat) : Int) := by
    rw [Int.natCast_mul, e]
    omega
  omega
theorem like_co {n : Int} {ps : List (Int × Int)} (h : CoT ps (rgI 0 n)) : Like n ps := by
  intro x hx y hy hxy
  unfold aloof
  refine List.filter_congr fun z hz => ?_
  have h1 : nearF ps x z = true → nearF ps y z = true := fun q => (h x hx z hz q y hy).elim (fun k => by rw [hxy] at k; cases k) fun k => by rw [nearF_symm]; exact k
  have h2 : nearF ps y z = true → nearF ps x z = true := fun q => (h y hy z hz q x hx).elim (fun k => by rw [nearF_symm, hxy] at k; cases k) fun k => by rw [nearF_symm]; exact k
  cases e1 : nearF ps x z <;> cases e2 : nearF ps y z
  · rfl
  · rw [h2 e2] at e1; cases e1
  · rw [h1 e1] at e2; cases e2
  · rfl
theorem crowd_max {n : Int} {ps : List (Int × Int)} (hW : WebOk n ps) : ∀ (f : Nat) (left : List Int), left.length ≤ f → ∀ x ∈ left, ∃ c ∈ crowdGo ps f left, nearF ps c x = false
  | 0, left, h, x, hx => by
    have e : left = [] := List.eq_nil_of_length_eq_zero (by omega)
    subst e
    cases hx
  | f + 1, left, h, x, hx => by
    have hn : left ≠ [] := fun z => by rw [z] at hx; cases hx
    have less := left_less hW hn
    have ec : crowdGo ps (f + 1) left = bestF ps left :: crowdGo ps f (left.filter fun y => nearF ps (bestF ps left) y) := if_neg hn
    rw [ec]
    cases q : nearF ps (bestF ps left) x with
    | false => exact ⟨_, List.mem_cons_self, q⟩
    | true =>
      obtain ⟨c, hc, h2⟩ := crowd_max hW f (left.filter fun y => nearF ps (bestF ps left) y) (by omega) x (List.mem_filter.mpr ⟨hx, q⟩)
      exact ⟨c, List.mem_cons_of_mem _ hc, h2⟩
theorem crowd_pair {n : Int} {ps : List (Int × Int)} (hW : WebOk n ps) : ∀ (f : Nat) (left : List Int), (∀ x ∈ crowdGo ps f left, x ∈ left) ∧ (crowdGo ps f left).Pairwise fun x y => nearF ps x y = true
  | 0, left => ⟨fun x hx => (nomatch hx), List.Pairwise.nil⟩
  | f + 1, left => by
    by_cases hn : left = []
    · rw [show crowdGo ps (f + 1) left = [] from if_pos hn]
      exact ⟨fun x hx => (nomatch hx), List.Pairwise.nil⟩
    · have ec : crowdGo ps (f + 1) left = bestF ps left :: crowdGo ps f (left.filter fun y => nearF ps (bestF ps left) y) := if_neg hn
      rw [ec]
      obtain ⟨h1, h2⟩ := crowd_pair hW f (left.filter fun y => nearF ps (bestF ps left) y)
      refine ⟨fun x hx => ?_, List.pairwise_cons.mpr ⟨fun y hy => (List.mem_filter.mp (h1 y hy)).2, h2⟩⟩
      rcases List.mem_cons.mp hx with q | q
      · rw [q]; exact bestF_mem hn
      · exact (List.mem_filter.mp (h1 x q)).1
/-! ### groups of a web that has the most -/
theorem parted_inv {n : Int} {ps : List (Int × Int)} {gs : List (List Int)} (h : lawParted n ps gs = true) : gs.any lawBad = false ∧ srt gs.flatten = rgI 0 n ∧ (∀ p ∈ ps, homeL gs p.1 ≠ homeL gs p.2) ∧ (ps.length : Int) * 2 = crossS n gs := by
  unfold lawParted at h
  obtain ⟨h1, h2⟩ := Bool.and_eq_true_iff.mp h
  obtain ⟨h3, h4⟩ := Bool.and_eq_true_iff.mp h2
  obtain ⟨h5, h6⟩ := or_false_inv (not_true_inv h3)
  refine ⟨not_true_inv h1, of_decide_eq_true (not_false_inv h5), fun p hp e => ?_, of_decide_eq_true h4⟩
  have := List.any_eq_false.mp h6 p hp
  rw [e] at this
  exact this (decide_eq_true rfl)
theorem sum_sizes : ∀ gs : List (List Int), (sizes gs).sum = (gs.flatten.length : Int)
  | [] => rfl
  | g :: r => by
    have := sum_sizes r
    unfold sizes at this ⊢
    rw [List.map_cons, List.sum_cons, this, List.flatten_cons, List.length_append, Int.natCast_add]
theorem sqs_sizes (gs : List (List Int)) : ((sizes gs).map fun a => a * a).sum = sqs gs := by
  unfold sizes sqs
  rw [List.map_map]
  rfl
theorem bad_ne {gs : List (List Int)} (h : gs.any lawBad = false) {g : List Int} (hg : g ∈ gs) : g ≠ [] := fun e => by
  have := List.any_eq_false.mp h g hg
  rw [e] at this
  exact this rfl
theorem tur_full {n m : Int} {ps : List (Int × Int)} (hW : WebOk n ps) (n1 : 1 ≤ n) (m1 : 1 ≤ m) (hc : ((crowdF n ps).length : Int) ≤ m) (hp : mostT n m ≤ (ps.length : Int)) :
    (ps.length : Int) = mostT n m ∧ Like n ps ∧ lawFull n ps m (lawGroups n ps) = true := by
  obtain ⟨e, co⟩ := tur hW n1 m1 hc hp
  have L := like_co co
  have lp := law_part (by omega) hW L
  obtain ⟨nd, all⟩ := lawTo_nd n ps _ (xs := rgI 0 n) rfl
  have mem := fun g hg => groupsTo_mem (n := n) (ps := ps) _ (xs := rgI 0 n) rfl g hg
  have nd : (lawGroups n ps).Nodup := nd
  have mem : ∀ g ∈ lawGroups n ps, ∃ x ∈ rgI 0 n, g = aloof n ps x := mem
  refine ⟨e, L, ?_⟩
  obtain ⟨p1, p2, p3, p4⟩ := parted_inv lp
  have cnt : (lawGroups n ps).length ≤ (crowdF n ps).length := by
    have q := List.Nodup.length_le_of_subset (l₂ := (crowdF n ps).map (aloof n ps)) nd fun g hg => by
      obtain ⟨x, hx, rfl⟩ := mem g hg
      obtain ⟨c, hc1, hc2⟩ := crowd_max hW n.toNat (rgI 0 n) (by rw [rgI_len]; exact Nat.le_refl _) x hx
      have hcm := (crowd_pair hW n.toNat (rgI 0 n)).1 c hc1
      exact List.mem_map.mpr ⟨c, hc1, L c hcm x hx hc2⟩
    rwa [List.length_map] at q
  unfold lawFull
  rw [lp]
  generalize lawGroups n ps = gs at *
  have fl : (gs.flatten.length : Int) = n := by
    have := (srt_perm gs.flatten).length_eq
    rw [p2, rgI_len] at this
    omega
  have ss := sum_sizes gs
  rw [fl] at ss
  have cs := cross_sum n gs
  rw [fl] at cs
  have ll : (sizes gs).length = gs.length := List.length_map _
  obtain ⟨_, s2⟩ := sizes_most (l := sizes gs) m1 (by rw [ll]; omega) fun a ha => by
    unfold sizes at ha
    obtain ⟨g, hg, rfl⟩ := List.mem_map.mp ha
    have := List.length_pos_iff.mpr (bad_ne p1 hg)
    omega
  rw [ss, sqs_sizes, ll] at s2
  obtain ⟨k1, k2⟩ := s2 (by omega)
  have ne : sizes gs ≠ [] := fun z => by
    rw [z] at ll
    have : gs.length = 0 := ll.symm
    have : gs = [] := List.eq_nil_of_length_eq_zero this
    rw [this] at fl
    simp at fl
    omega
  obtain ⟨x1, _⟩ := mxL_ok ne
  obtain ⟨y1, _⟩ := mnL_ok ne
  have a := k2 _ x1
  have b := k2 _ y1
  have sp : ¬ 1 < spread gs := by unfold spread; omega
  rw [decide_eq_true k1, decide_eq_false sp]
  rfl
theorem home_in {gs : List (List Int)} {x : Int} (m : x ∈ gs.flatten) : x ∈ gs[homeF gs x]'(homeF_lt m) := by
  have := List.findIdx_getElem (xs := gs) (p := fun g => decide (x ∈ g)) (w := homeF_lt m)
  exact of_decide_eq_true this
theorem full_no_crowd {n m : Int} {ps : List (Int × Int)} {gs : List (List Int)} (h : lawFull n ps m gs = true) {xs : List Int} (hx : ∀ x ∈ xs, x ∈ rgI 0 n) (hp : xs.Pairwise fun x y => nearF ps x y = true) : (xs.length : Int) ≤ m := by
  unfold lawFull at h
  obtain ⟨h1, h2⟩ := Bool.and_eq_true_iff.mp h
  obtain ⟨h3, _⟩ := or_false_inv (not_true_inv h1)
  have h3 := of_decide_eq_true (not_false_inv h3)
  obtain ⟨p1, p2, p3, p4⟩ := parted_inv h2
  have pm := srt_perm gs.flatten
  rw [p2] at pm
  have nd : gs.flatten.Nodup := pm.nodup_iff.mp (rgI_nodup n)
  have inf : ∀ x ∈ xs, x ∈ gs.flatten := fun x hxx => pm.mem_iff.mp (hx x hxx)
  have q : (xs.map fun x => (homeF gs x : Int)).length ≤ (rgI 0 (gs.length : Int)).length := by
    refine nodup_len ?_ fun z hz => ?_
    · rw [List.nodup_iff_pairwise_ne, List.pairwise_map]
      refine List.Pairwise.imp_of_mem (fun {a b} ha hb hn e => ?_) hp
      have e2 : homeF gs a = homeF gs b := by omega
      rcases near_iff.mp hn with k | k
      · exact p3 _ k (by rw [home_same nd (inf a ha), home_same nd (inf b hb), e2])
      · exact p3 _ k (by rw [home_same nd (inf a ha), home_same nd (inf b hb), e2])
    · obtain ⟨x, hxx, rfl⟩ := List.mem_map.mp hz
      have := homeF_lt (inf x hxx)
      exact rgI_mem.mpr (by omega)
  rw [List.length_map, rgI_len] at q
  omega
theorem pairsB_pw {f : Int → Int → Bool} : ∀ {xs : List Int}, pairsB f xs = true ↔ xs.Pairwise fun x y => f x y = true
  | [] => ⟨fun _ => List.Pairwise.nil, fun _ => rfl⟩
  | x :: r => by
    show (r.all (f x) && pairsB f r) = true ↔ _
    rw [Bool.and_eq_true, List.pairwise_cons, List.all_eq_true, pairsB_pw]
theorem crowd_nodup {n : Int} {ps : List (Int × Int)} (hW : WebOk n ps) {xs : List Int} (h : xs.Pairwise fun x y => nearF ps x y = true) : xs.Nodup := h.imp fun {a b} q e => by
  rw [e, nearF_self hW] at q
  cases q
theorem crowd_told {n m : Int} {ps : List (Int × Int)} (hW : WebOk n ps) (m1 : 1 ≤ m) (h : m < ((crowdF n ps).length : Int)) :
    ((srt ((crowdF n ps).take (m.toNat + 1))).length : Int) = m + 1 ∧ isCrowd n ps (srt ((crowdF n ps).take (m.toNat + 1))) = true := by
  obtain ⟨i1, i2⟩ := crowd_pair hW n.toNat (rgI 0 n)
  have i1 : ∀ x ∈ crowdF n ps, x ∈ rgI 0 n := i1
  have i2 : (crowdF n ps).Pairwise fun x y => nearF ps x y = true := i2
  generalize crowdF n ps = c at *
  have t1 : ∀ x ∈ c.take (m.toNat + 1), x ∈ rgI 0 n := fun x hx => i1 x (List.mem_of_mem_take hx)
  have t2 : (c.take (m.toNat + 1)).Pairwise fun x y => nearF ps x y = true := i2.sublist (List.take_sublist _ _)
  have t3 : (c.take (m.toNat + 1)).length = m.toNat + 1 := by rw [List.length_take]; omega
  generalize c.take (m.toNat + 1) = d at *
  have nd := crowd_nodup hW t2
  have pm := srt_perm d
  refine ⟨by rw [srt_len, t3]; omega, ?_⟩
  unfold isCrowd
  have e1 : srt d = sset (srt d) := (sset_self (le_nodup_lt (srt_le d) (pm.nodup_iff.mpr nd))).symm
  have e2 : inRg n (srt d) = true := List.all_eq_true.mpr fun x hx => by
    have := rgI_mem.mp (t1 x (pm.mem_iff.mp hx))
    rw [decide_eq_true this.1, decide_eq_true this.2]
    rfl
  have e3 : pairsB (nearF ps) (srt d) = true := pairsB_pw.mpr ((pm.pairwise_iff fun {x y} q => by rw [nearF_symm]; exact q).mpr t2)
  rw [decide_eq_true e1, e2, e3]
  rfl
/-! ### which of the three is due -/
def fullB (n : Int) (ps : List (Int × Int)) (m : Int) : Bool := decide (mostT n m - (ps.length : Int) = 0) && lawFull n ps m (lawGroups n ps)
def kindL (n : Int) (ps : List (Int × Int)) (m : Int) : List Bool := if 0 < mostT n m - (ps.length : Int) then [false, false, true] else [!fullB n ps m, fullB n ps m, false]
theorem kind_spare {n m : Int} {ps : List (Int × Int)} (h : 0 < mostT n m - (ps.length : Int)) : kindL n ps m = [false, false, true] := if_pos h
theorem kind_crowd {n m : Int} {ps : List (Int × Int)} (hW : WebOk n ps) (h : ¬ 0 < mostT n m - (ps.length : Int)) (h2 : m < ((crowdF n ps).length : Int)) : kindL n ps m = [true, false, false] := by
  have e : fullB n ps m = false := by
    unfold fullB
    cases q : lawFull n ps m (lawGroups n ps) with
    | false => rw [Bool.and_false]
    | true =>
      obtain ⟨i1, i2⟩ := crowd_pair hW n.toNat (rgI 0 n)
      have := full_no_crowd q (xs := crowdF n ps) i1 i2
      omega
  unfold kindL
  rw [if_neg h, e]
  rfl
theorem kind_full {n m : Int} {ps : List (Int × Int)} (hW : WebOk n ps) (n1 : 1 ≤ n) (m1 : 1 ≤ m) (h : ¬ 0 < mostT n m - (ps.length : Int)) (h2 : ¬ m < ((crowdF n ps).length : Int)) :
    kindL n ps m = [false, true, false] ∧ groupsF n ps = lawGroups n ps ∧ lawFull n ps m (lawGroups n ps) = true := by
  obtain ⟨a, L, f⟩ := tur_full hW n1 m1 (by omega) (by omega)
  have e : fullB n ps m = true := by
    unfold fullB
    rw [f, decide_eq_true (by omega)]
    rfl
  refine ⟨?_, groups_eq hW L, f⟩
  unfold kindL
  rw [if_neg h, e]
  rfl
end SC

/-! SCU: law 2's promises. -/
namespace SC
open PySem PySem.Spec PyProof.Rows L2 Evl
/-- the answers of isinstance -/
structure IsK2 (K : PySem.W.Frag) (A : Ans) (Z : Addr) : Prop where
  iC : ICl K A.Crowd
  iF : ICl K A.Full
  iS : ICl K A.Spare
  cc : PySem.W.kitOne K (.ref A.Crowd) (.ref A.Crowd) = some true
  cf : PySem.W.kitOne K (.ref A.Crowd) (.ref A.Full) = some false
  cs : PySem.W.kitOne K (.ref A.Crowd) (.ref A.Spare) = some false
  ca : PySem.W.kitOne K (.ref A.Crowd) (.ref Z) = some true
  cp : PySem.W.kitOne K (.ref A.Crowd) (.ref A.Parted) = some false
  ct : PySem.W.kitOne K (.ref A.Crowd) (.ref A.Three) = some false
  fc : PySem.W.kitOne K (.ref A.Full) (.ref A.Crowd) = some false
  ff : PySem.W.kitOne K (.ref A.Full) (.ref A.Full) = some true
  fs : PySem.W.kitOne K (.ref A.Full) (.ref A.Spare) = some false
  fa : PySem.W.kitOne K (.ref A.Full) (.ref Z) = some true
  fp : PySem.W.kitOne K (.ref A.Full) (.ref A.Parted) = some false
  ft : PySem.W.kitOne K (.ref A.Full) (.ref A.Three) = some false
  sc : PySem.W.kitOne K (.ref A.Spare) (.ref A.Crowd) = some false
  sf : PySem.W.kitOne K (.ref A.Spare) (.ref A.Full) = some false
  ss : PySem.W.kitOne K (.ref A.Spare) (.ref A.Spare) = some true
  sa : PySem.W.kitOne K (.ref A.Spare) (.ref Z) = some true
  sp : PySem.W.kitOne K (.ref A.Spare) (.ref A.Parted) = some false
  st : PySem.W.kitOne K (.ref A.Spare) (.ref A.Three) = some false
def RKind (ds : List PyData) (d : PyData) : Prop := ∃ (n m : Int) (ps : List (Int × Int)), ds = [.int n, .list (pL ps), .int m] ∧ 1 ≤ n ∧ n ≤ 60 ∧ 1 ≤ m ∧ Sz 400 m ∧ WebOk n ps ∧ d = .list (bL (kindL n ps m))
def crowdB (n : Int) (ps : List (Int × Int)) (m : Int) (xs : List Int) : Bool := decide ((xs.length : Int) = m + 1) && isCrowd n ps xs
def spareB (n : Int) (ps : List (Int × Int)) (m k : Int) : Bool := decide (0 < k) && decide (k = mostT n m - (ps.length : Int))
def spDue2 (A : Ans) : Sp := fun vs H Q _ => ∃ (n m : Int) (ps : List (Int × Int)) (vt : V) (x : Addr), vs = [.int n, vt, .int m, .ref x] ∧ Dt H vt (.list (pL ps)) ∧ 1 ≤ n ∧ n ≤ 60 ∧ 1 ≤ m ∧ Sz 400 m ∧ WebOk n ps ∧
  ((∃ (dx : Addr) (v : V) (xs : List Int), H x = some (.ins A.Crowd dx [("some", v)]) ∧ Dt H v (.list (iL xs)) ∧ xs.length < 64 ∧ Kd false (.bool (crowdB n ps m xs)) H Q) ∨
   ((∃ (dx : Addr) (v : V) (gs : List (List Int)), H x = some (.ins A.Full dx [("groups", v)]) ∧ Dt H v (.list (gL gs)) ∧ gs.length ≤ 1000 ∧ (∀ g ∈ gs, g.length ≤ 1000) ∧ Kd false (.bool (lawFull n ps m gs)) H Q) ∨
    ∃ (dx : Addr) (k : Int), H x = some (.ins A.Spare dx [("ties", .int k)]) ∧ Kd false (.bool (spareB n ps m k)) H Q))
def encO (o : List (Int × Int) × Int) : PyData := .tuple [.list (pL o.1), .int o.2]
def spRight2 : Sp := fun vs H Q _ => ∃ (n m : Int) (ps : List (Int × Int)) (os : List (List (Int × Int) × Int)) (vt vo : V), vs = [.int n, vt, .int m, vo] ∧ Dt H vt (.list (pL ps)) ∧ Dt H vo (.list (os.map encO)) ∧ 1 ≤ n ∧ n ≤ 60 ∧ 1 ≤ m ∧ Sz 400 m ∧ WebOk n ps ∧ os.length ≤ 1000 ∧ (∀ o ∈ os, WebOk n o.1 ∧ 1 ≤ o.2 ∧ Sz 400 o.2) ∧ Kd false (.bool true) H Q
section
variable {A : Ans} {K : PySem.W.Frag} {σ : L2.St} {H : Hp} {ta tb tc : TE} {tas : TA} {E : XK} {n m : Int} {ps : List (Int × Int)} {i : Nat} {D : Ends} {tz : TS}
theorem doorT (h : EvAs tas σ H [.int n, .list (pL ps), .int m]) (n1 : 1 ≤ n) (n60 : n ≤ 60) (m1 : 1 ≤ m) (zm : Sz 400 m) (hW : WebOk n ps) {H0 : Hp} (e0 : Ex H H0) {Q : VK}
    (k1 : ∀ x dx H', 0 < mostT n m - (ps.length : Int) → Ex H0 H' → H0 x = none → H' x = some (.ins A.Spare dx [("ties", .int (mostT n m - (ps.length : Int)))]) → Q (.ref x) H')
    (k2 : ∀ x dx p H', ¬ 0 < mostT n m - (ps.length : Int) → m < ((crowdF n ps).length : Int) → Ex H0 H' → H0 x = none → H0 p = none → H' x = some (.ins A.Crowd dx [("some", .ref p)]) → H' p = some (.lst ((srt ((crowdF n ps).take (m.toNat + 1))).map V.int)) → Q (.ref x) H')
    (k3 : ∀ x dx p qs H', ¬ 0 < mostT n m - (ps.length : Int) → ¬ m < ((crowdF n ps).length : Int) → Ex H0 H' → H0 x = none → H' x = some (.ins A.Full dx [("groups", .ref p)]) → Gn H0 H' p qs (groupsF n ps) → Q (.ref x) H') :
    tCall (spDoorT A) [] E tas σ H0 Q := h H0 e0 _ fun vs H1 e1 hv => by
  obtain ⟨v1, v2, v3, rfl, a1, a2, a3⟩ := hv.three
  cases a1.int_inv
  cases a3.int_inv
  exact ⟨n, m, ps, v2, rfl, a2, n1, n60, m1, zm, hW, by have := hW.len1770 n60; omega, fun x dx H' p e nx hx => k1 x dx H' p (e1.trans e) (fresh_back e1 nx) hx,
    fun x dx p H' p1 p2 e nx np hx hp => k2 x dx p H' p1 p2 (e1.trans e) (fresh_back e1 nx) (fresh_back e1 np) hx hp, fun x dx p qs H' p1 p2 e nx hx G => k3 x dx p qs H' p1 p2 (e1.trans e) (fresh_back e1 nx) hx (G.back e1)⟩
theorem due_C {j : Nat} {x dx : Addr} {v : V} {xs : List Int} (h1 : EvD ta σ H (.int n)) (h2 : EvD tb σ H (.list (pL ps))) (h3 : EvD tc σ H (.int m)) (hv : σ[j]? = some (some (.ref x))) (hx : H x = some (.ins A.Crowd dx [("some", v)])) (hg : Dt H v (.list (iL xs))) (n1 : 1 ≤ n) (n60 : n ≤ 60) (m1 : 1 ≤ m) (zm : Sz 400 m) (hW : WebOk n ps) (xl : xs.length < 64) :
    EvD (tCall (spDue2 A) [] E (tCons ta (tCons tb (tCons tc (tCons (tVar j) tNil))))) σ H (.bool (crowdB n ps m xs)) := fun H1 e1 Q q => h1 H1 e1 _ fun u H2 e2 hu _ => h2 H2 (e1.trans e2) _ fun u2 H3 e3 hu2 _ => h3 H3 ((e1.trans e2).trans e3) _ fun u3 H4 e4 hu3 _ => ⟨_, hv, by
  cases hu.int_inv
  cases hu3.int_inv
  have e14 := ((e1.trans e2).trans e3).trans e4
  exact ⟨n, m, ps, u2, x, rfl, hu2.ex e4, n1, n60, m1, zm, hW, .inl ⟨dx, v, xs, e14 _ _ hx, hg.ex e14, xl, q.back ((e2.trans e3).trans e4)⟩⟩⟩
theorem due_F {j : Nat} {x dx : Addr} {v : V} {gs : List (List Int)} (h1 : EvD ta σ H (.int n)) (h2 : EvD tb σ H (.list (pL ps))) (h3 : EvD tc σ H (.int m)) (hv : σ[j]? = some (some (.ref x))) (hx : H x = some (.ins A.Full dx [("groups", v)])) (hg : Dt H v (.list (gL gs))) (n1 : 1 ≤ n) (n60 : n ≤ 60) (m1 : 1 ≤ m) (zm : Sz 400 m) (hW : WebOk n ps) (gl : gs.length ≤ 1000) (gg : ∀ g ∈ gs, g.length ≤ 1000) :
    EvD (tCall (spDue2 A) [] E (tCons ta (tCons tb (tCons tc (tCons (tVar j) tNil))))) σ H (.bool (lawFull n ps m gs)) := fun H1 e1 Q q => h1 H1 e1 _ fun u H2 e2 hu _ => h2 H2 (e1.trans e2) _ fun u2 H3 e3 hu2 _ => h3 H3 ((e1.trans e2).trans e3) _ fun u3 H4 e4 hu3 _ => ⟨_, hv, by
  cases hu.int_inv
  cases hu3.int_inv
  have e14 := ((e1.trans e2).trans e3).trans e4
  exact ⟨n, m, ps, u2, x, rfl, hu2.ex e4, n1, n60, m1, zm, hW, .inr (.inl ⟨dx, v, gs, e14 _ _ hx, hg.ex e14, gl, gg, q.back ((e2.trans e3).trans e4)⟩)⟩⟩
theorem due_S {j : Nat} {x dx : Addr} {k : Int} (h1 : EvD ta σ H (.int n)) (h2 : EvD tb σ H (.list (pL ps))) (h3 : EvD tc σ H (.int m)) (hv : σ[j]? = some (some (.ref x))) (hx : H x = some (.ins A.Spare dx [("ties", .int k)])) (n1 : 1 ≤ n) (n60 : n ≤ 60) (m1 : 1 ≤ m) (zm : Sz 400 m) (hW : WebOk n ps) :
    EvD (tCall (spDue2 A) [] E (tCons ta (tCons tb (tCons tc (tCons (tVar j) tNil))))) σ H (.bool (spareB n ps m k)) := fun H1 e1 Q q => h1 H1 e1 _ fun u H2 e2 hu _ => h2 H2 (e1.trans e2) _ fun u2 H3 e3 hu2 _ => h3 H3 ((e1.trans e2).trans e3) _ fun u3 H4 e4 hu3 _ => ⟨_, hv, by
  cases hu.int_inv
  cases hu3.int_inv
  have e14 := ((e1.trans e2).trans e3).trans e4
  exact ⟨n, m, ps, u2, x, rfl, hu2.ex e4, n1, n60, m1, zm, hW, .inr (.inr ⟨dx, k, e14 _ _ hx, q.back ((e2.trans e3).trans e4)⟩)⟩⟩
theorem d_right2 {os : List (List (Int × Int) × Int)} (h : EvAs tas σ H [.int n, pLD ps, .int m, .list (os.map encO)]) (n1 : 1 ≤ n) (n60 : n ≤ 60) (m1 : 1 ≤ m) (zm : Sz 400 m) (hW : WebOk n ps) (ol : os.length ≤ 1000) (oW : ∀ o ∈ os, WebOk n o.1 ∧ 1 ≤ o.2 ∧ Sz 400 o.2) : EvD (tCall spRight2 [] E tas) σ H (.bool true) := d_call h fun vs H1 e1 hv Q q E => by
  obtain ⟨v1, v2, v3, v4, rfl, b1, b2, b3, b4⟩ := hv.four
  cases b1.int_inv
  cases b3.int_inv
  exact ⟨n, m, ps, os, v2, v4, rfl, b2, b4, n1, n60, m1, zm, hW, ol, oW, q⟩
/-- told(..).ties, told(..).groups -/
theorem d_doorS (h : EvAs tas σ H [.int n, .list (pL ps), .int m]) (n1 : 1 ≤ n) (n60 : n ≤ 60) (m1 : 1 ≤ m) (zm : Sz 400 m) (hW : WebOk n ps) (hp : 0 < mostT n m - (ps.length : Int)) (cl : Cls K A.Spare) (no : NoAttr K A.Spare "ties") : EvD (tFld K (tCall (spDoorT A) [] E tas) "ties") σ H (.int (mostT n m - (ps.length : Int))) := fun H1 e1 Q q =>
  doorT h n1 n60 m1 zm hW e1 (fun x dx H' _ e nx hx => ⟨x, A.Spare, dx, _, _, rfl, hx, cl, no, rfl, q _ H' e (.int _) Fr.no⟩) (fun x dx p H' z _ _ _ _ _ _ => absurd hp z) fun x dx p qs H' z _ _ _ _ _ => absurd hp z
theorem d_doorTG (h : EvAs tas σ H [.int n, .list (pL ps), .int m]) (n1 : 1 ≤ n) (n60 : n ≤ 60) (m1 : 1 ≤ m) (zm : Sz 400 m) (hW : WebOk n ps) (hp : ¬ 0 < mostT n m - (ps.length : Int)) (hc : ¬ m < ((crowdF n ps).length : Int)) (cl : Cls K A.Full) (no : NoAttr K A.Full "groups") : EvD (tFld K (tCall (spDoorT A) [] E tas) "groups") σ H (.list (gL (groupsF n ps))) := fun H1 e1 Q q =>
  doorT h n1 n60 m1 zm hW e1 (fun x dx H' z _ _ _ => absurd z hp) (fun x dx p H' _ z _ _ _ _ _ => absurd z hc) fun x dx p qs H' _ _ e nx hx G => ⟨x, A.Full, dx, _, _, rfl, hx, cl, no, rfl, q _ H' e G.dt Fr.no⟩
end
/-! ### a web with one tie exchanged -/
def goneRow (n : Int) (ps : List (Int × Int)) (i : Int) : List (Int × Int) := ((rgI (i + 1) n).filter fun j => !nearF ps i j).map fun j => (i, j)
def goneF (n : Int) (ps : List (Int × Int)) : List (Int × Int) := (rgI 0 n).flatMap (goneRow n ps)
def bentF (n : Int) (ps : List (Int × Int)) (j : Int) : List (Int × Int) := if goneF n ps = [] ∨ ps = [] then ps.drop 1 else ps.drop 1 ++ [(goneF n ps).getD (j % ((goneF n ps).length : Int)).toNat (0, 0)]
theorem goneRow_mem {n : Int} {ps : List (Int × Int)} {i : Int} {p : Int × Int} : p ∈ goneRow n ps i ↔ p.1 = i ∧ i < p.2 ∧ p.2 < n ∧ nearF ps i p.2 = false := by
  unfold goneRow
  rw [List.mem_map]
  constructor
  · rintro ⟨j, hj, rfl⟩
    obtain ⟨h1, h2⟩ := List.mem_filter.mp hj
    have h3 := rgI_mem2.mp h1
    exact ⟨rfl, by show i < j; omega, h3.2, by simpa using h2⟩
  · rintro ⟨rfl, h2, h3, h4⟩
    exact ⟨p.2, List.mem_filter.mpr ⟨rgI_mem2.mpr (by omega), by rw [h4]; rfl⟩, rfl⟩
theorem goneRow_len (n : Int) (ps : List (Int × Int)) (i : Int) (h : 0 ≤ i) : (goneRow n ps i).length ≤ n.toNat := by
  unfold goneRow
  rw [List.length_map]
  refine Nat.le_trans (List.length_filter_le _ _) ?_
  unfold rgI
  rw [List.length_map, List.length_range]
  omega
theorem gone_mem {n : Int} {ps : List (Int × Int)} {p : Int × Int} (h : p ∈ goneF n ps) : (0 ≤ p.1 ∧ p.1 < p.2 ∧ p.2 < n) ∧ p ∉ ps := by
  obtain ⟨i, hi, hp⟩ := List.mem_flatMap.mp h
  have a := rgI_mem.mp hi
  have b := goneRow_mem.mp hp
  refine ⟨by omega, fun z => ?_⟩
  have : nearF ps p.1 p.2 = true := near_iff.mpr (.inl z)
  rw [b.1, b.2.2.2] at this
  cases this
theorem bent_ok {n : Int} {ps : List (Int × Int)} (hW : WebOk n ps) (j : Int) : WebOk n (bentF n ps j) ∧ WebOk n (bentF n ps j ++ ps.take 1) := by
  have rot : (ps.drop 1 ++ ps.take 1).Perm ps := by
    have := List.perm_append_comm (l₁ := ps.drop 1) (l₂ := ps.take 1)
    rwa [List.take_append_drop] at this
  have hp : ∀ {qs : List (Int × Int)}, qs.Perm ps → WebOk n qs := fun p => ⟨fun q hq => hW.tie q (p.mem_iff.mp hq), p.nodup_iff.mpr hW.nd⟩
  unfold bentF
  by_cases c : goneF n ps = [] ∨ ps = []
  · rw [if_pos c]
    exact ⟨hW.sub (List.drop_sublist 1 ps), hp rot⟩
  · rw [if_neg c]
    have ne : goneF n ps ≠ [] := fun z => c (.inl z)
    have lp : 0 < (goneF n ps).length := List.length_pos_iff.mpr ne
    have r0 := Int.emod_nonneg j (show ((goneF n ps).length : Int) ≠ 0 by omega)
    have r1 := Int.emod_lt_of_pos j (show 0 < ((goneF n ps).length : Int) by omega)
    have gm : (goneF n ps).getD (j % ((goneF n ps).length : Int)).toNat (0, 0) ∈ goneF n ps := by
      rw [List.getD_eq_getElem?_getD, List.getElem?_eq_getElem (show (j % ((goneF n ps).length : Int)).toNat < _ by omega)]
      exact List.getElem_mem _
    generalize (goneF n ps).getD (j % ((goneF n ps).length : Int)).toNat (0, 0) = g at gm
    obtain ⟨g1, g2⟩ := gone_mem gm
    have w1 : WebOk n (ps.drop 1 ++ [g]) := (hW.sub (List.drop_sublist 1 ps)).snoc g1 fun z => g2 ((List.drop_sublist 1 ps).subset z)
    have w2 : WebOk n (ps ++ [g]) := hW.snoc g1 g2
    refine ⟨w1, ?_⟩
    have p2 : (ps.drop 1 ++ [g] ++ ps.take 1).Perm (ps ++ [g]) := by
      rw [List.append_assoc]
      refine ((List.perm_append_comm (l₁ := [g]) (l₂ := ps.take 1)).append_left (ps.drop 1)).trans ?_
      rw [← List.append_assoc]
      exact rot.append_right [g]
    exact ⟨fun q hq => w2.tie q (p2.mem_iff.mp hq), p2.nodup_iff.mpr w2.nd⟩
def RBent (ds : List PyData) (d : PyData) : Prop := ∃ (n j : Int) (ps : List (Int × Int)), ds = [.int n, .list (pL ps), .int j] ∧ 1 ≤ n ∧ n ≤ 60 ∧ WebOk n ps ∧ d = .list (pL (bentF n ps j))
end SC

/-! SCJ: law 1's plain part: a fullest web. -/
namespace SC
open PySem PySem.Spec PyProof.Rows L2 Evl
/-! ### the most ties grow -/
theorem most_zero {m : Int} (m1 : 1 ≤ m) : mostT 0 m = 0 := by
  unfold mostT
  simp
theorem most_succ {n m : Int} (n0 : 0 ≤ n) (m1 : 1 ≤ m) : mostT (n + 1) m = mostT n m + n - n / m := by
  have a := two_most n m
  have b := two_most (n + 1) m
  have dm := Int.mul_ediv_add_emod n m
  have r0 := Int.emod_nonneg n (show m ≠ 0 by omega)
  have r1 := Int.emod_lt_of_pos n (show 0 < m by omega)
  have q0 : 0 ≤ n / m := Int.ediv_nonneg n0 (by omega)
  by_cases h : n % m + 1 < m
  · have e1 : (n + 1) / m = n / m := by
      refine (Int.ediv_eq_iff_of_pos (by omega)).mpr ?_
      generalize n / m = q at *
      have : q * m = m * q := Int.mul_comm _ _
      have : (q + 1) * m = m * q + m := by grind
      omega
    have e2 : (n + 1) % m = n % m + 1 := by
      have := Int.mul_ediv_add_emod (n + 1) m
      rw [e1] at this
      omega
    rw [e1, e2] at b
    generalize n / m = q at *
    generalize n % m = s at *
    generalize mostT n m = x at *
    generalize mostT (n + 1) m = y at *
    have : (n + 1) * (n + 1) = n * n + 2 * n + 1 := by grind
    have : (s + 1) * q = s * q + q := by grind
    omega
  · have hs : n % m = m - 1 := by omega
    have e1 : (n + 1) / m = n / m + 1 := by
      refine (Int.ediv_eq_iff_of_pos (by omega)).mpr ?_
      generalize n / m = q at *
      have : (q + 1) * m = m * q + m := by grind
      have : (q + 1 + 1) * m = m * q + m + m := by grind
      omega
    have e2 : (n + 1) % m = 0 := by
      have := Int.mul_ediv_add_emod (n + 1) m
      rw [e1] at this
      have : m * (n / m + 1) = m * (n / m) + m := by grind
      omega
    rw [e1, e2] at b
    rw [hs] at a
    generalize n / m = q at *
    generalize mostT n m = x at *
    generalize mostT (n + 1) m = y at *
    have h1 : (n + 1) * (n + 1) = n * n + 2 * n + 1 := by grind
    have h2 : m * ((q + 1) * (q + 1 - 1)) = m * (q * (q - 1)) + 2 * (m * q) := by grind
    have h3 : (m - 1) * q = m * q - q := by grind
    have h4 : (0 : Int) * (q + 1) = 0 := Int.zero_mul _
    omega
theorem most_up {n m : Int} (n0 : 0 ≤ n) (m1 : 1 ≤ m) : mostT n m ≤ mostT (n + 1) m := by
  rw [most_succ n0 m1]
  have : n / m ≤ n := Int.ediv_le_self m n0
  omega
theorem most_more {n m : Int} (n0 : 0 ≤ n) (m1 : 1 ≤ m) : mostT n m ≤ mostT n (m + 1) := by
  obtain ⟨k, rfl⟩ : ∃ k : Nat, n = (k : Int) := ⟨n.toNat, by omega⟩
  clear n0
  induction k with
  | zero => rw [show ((0 : Nat) : Int) = 0 from rfl, most_zero m1, most_zero (by omega)]; exact Int.le_refl _
  | succ k ih =>
    have e : ((k + 1 : Nat) : Int) = (k : Int) + 1 := by omega
    rw [e, most_succ (by omega) m1, most_succ (by omega) (by omega)]
    have : (k : Int) / (m + 1) ≤ (k : Int) / m := by
      refine (Int.le_ediv_iff_mul_le (by omega)).mpr ?_
      have h1 : (k : Int) / (m + 1) * (m + 1) ≤ k := Int.ediv_mul_le _ (by omega)
      have h2 : 0 ≤ (k : Int) / (m + 1) := Int.ediv_nonneg (by omega) (by omega)
      have h3 : (k : Int) / (m + 1) * (m + 1) = (k : Int) / (m + 1) * m + (k : Int) / (m + 1) := by grind
      omega
    omega
/-! ### a fullest web's ties -/
theorem rgI_snoc {a n : Int} (h : a ≤ n) : rgI a (n + 1) = rgI a n ++ [n] := by
  unfold rgI
  rw [show (n + 1 - a).toNat = (n - a).toNat + 1 by omega, List.range_succ, List.map_append]
  congr 1
  show [a + (((n - a).toNat : Nat) : Int)] = [n]
  congr 1
  omega
theorem row_zero (i m : Int) : fullRow (i + 1) m i = [] := by
  unfold fullRow
  have : rgI (i + 1) (i + 1) = [] := by
    unfold rgI
    rw [show (i + 1 - (i + 1)).toNat = 0 by omega]
    rfl
  rw [this]
  rfl
theorem row_len {m i : Int} (m1 : 1 ≤ m) : ∀ k : Nat, ((fullRow (i + 1 + (k : Int)) m i).length : Int) = (k : Int) - (k : Int) / m
  | 0 => by
    rw [show i + 1 + ((0 : Nat) : Int) = i + 1 by omega, row_zero]
    simp
  | k + 1 => by
    have ih := row_len (i := i) m1 k
    have e : i + 1 + ((k + 1 : Nat) : Int) = i + 1 + (k : Int) + 1 := by omega
    unfold fullRow at ih ⊢
    rw [List.length_map] at ih ⊢
    rw [e, rgI_snoc (by omega), List.filter_append, List.length_append, Int.natCast_add, ih]
    have ek : i + 1 + (k : Int) - i = (k : Int) + 1 := by omega
    have dm := Int.mul_ediv_add_emod (k : Int) m
    have r0 := Int.emod_nonneg (k : Int) (show m ≠ 0 by omega)
    have r1 := Int.emod_lt_of_pos (k : Int) (show 0 < m by omega)
    have ec : ((k + 1 : Nat) : Int) = (k : Int) + 1 := by omega
    rw [ec]
    by_cases h : ((k : Int) + 1) % m = 0
    · rw [List.filter_cons_of_neg (by rw [ek, decide_eq_true h]; decide), List.filter_nil]
      have e1 : ((k : Int) + 1) / m = (k : Int) / m + 1 := by
        have d2 := Int.mul_ediv_add_emod ((k : Int) + 1) m
        rw [h] at d2
        generalize ((k : Int) + 1) / m = q2 at *
        generalize (k : Int) / m = q at *
        generalize (k : Int) % m = s at *
        have d3 : m * (q2 - q - 1) = s + 1 - m := by grind
        have : q2 - q - 1 = 0 := by
          rcases Int.lt_trichotomy (q2 - q - 1) 0 with c | c | c
          · have : m * (q2 - q - 1) ≤ m * (-1) := Int.mul_le_mul_of_nonneg_left (by omega) (by omega)
            omega
          · exact c
          · have : m * 1 ≤ m * (q2 - q - 1) := Int.mul_le_mul_of_nonneg_left (by omega) (by omega)
            omega
        omega
      rw [e1]
      show (k : Int) - (k : Int) / m + ((0 : Nat) : Int) = _
      omega
    · rw [List.filter_cons_of_pos (by rw [ek, decide_eq_false h]; decide), List.filter_nil]
      have hs : (k : Int) % m + 1 < m := by
        refine Int.lt_of_not_ge fun c => h ?_
        have : (k : Int) % m = m - 1 := by omega
        have e2 : (k : Int) + 1 = m * ((k : Int) / m + 1) := by
          have : m * ((k : Int) / m + 1) = m * ((k : Int) / m) + m := by grind
          omega
        rw [e2]
        exact Int.mul_emod_right _ _
      have e1 : ((k : Int) + 1) / m = (k : Int) / m := by
        refine (Int.ediv_eq_iff_of_pos (by omega)).mpr ?_
        generalize (k : Int) / m = q at *
        have : q * m = m * q := Int.mul_comm _ _
        have : (q + 1) * m = m * q + m := by grind
        omega
      rw [e1]
      show (k : Int) - (k : Int) / m + ((1 : Nat) : Int) = _
      omega
theorem full_len {n m : Int} (n0 : 0 ≤ n) (m1 : 1 ≤ m) : ((fullF n m).length : Int) = mostT n m := by
  have key : ∀ k : Nat, ∀ a : Int, (((rgI a (a + (k : Int))).flatMap (fullRow (a + (k : Int)) m)).length : Int) = mostT k m := by
    intro k
    induction k with
    | zero =>
      intro a
      have : rgI a (a + ((0 : Nat) : Int)) = [] := by
        unfold rgI
        rw [show (a + ((0 : Nat) : Int) - a).toNat = 0 by omega]
        rfl
      rw [this, show ((0 : Nat) : Int) = 0 from rfl, most_zero m1]
      rfl
    | succ k ih =>
      intro a
      have hd : rgI a (a + ((k + 1 : Nat) : Int)) = a :: rgI (a + 1) (a + ((k + 1 : Nat) : Int)) := by
        unfold rgI
        rw [show (a + ((k + 1 : Nat) : Int) - a).toNat = k + 1 by omega, show (a + ((k + 1 : Nat) : Int) - (a + 1)).toNat = k by omega, List.range_succ_eq_map, List.map_cons, List.map_map]
        congr 1
        · omega
        · refine List.map_congr_left fun x _ => ?_
          show a + ((x + 1 : Nat) : Int) = a + 1 + (x : Int)
          omega
      have ih2 := ih (a + 1)
      have e : a + 1 + (k : Int) = a + ((k + 1 : Nat) : Int) := by omega
      rw [e] at ih2
      have rl := row_len (i := a) m1 k
      rw [e] at rl
      rw [hd, List.flatMap_cons, List.length_append, Int.natCast_add, ih2, rl, show ((k + 1 : Nat) : Int) = (k : Int) + 1 by omega, most_succ (by omega) m1]
      omega
  obtain ⟨k, rfl⟩ : ∃ k : Nat, n = (k : Int) := ⟨n.toNat, by omega⟩
  have := key k 0
  rw [Int.zero_add] at this
  exact this
theorem full_mem {n m : Int} {p : Int × Int} (h : p ∈ fullF n m) : ¬ (p.2 - p.1) % m = 0 := by
  obtain ⟨i, hi, hp⟩ := List.mem_flatMap.mp h
  have b := fullRow_mem.mp hp
  rw [b.1]
  exact b.2.2.2
theorem full_crowd {n m : Int} (n1 : 1 ≤ n) (m1 : 1 ≤ m) : ((crowdF n (fullF n m)).length : Int) ≤ m := by
  obtain ⟨_, i2⟩ := crowd_pair (fullF_ok n m) n.toNat (rgI 0 n)
  have i2 : (crowdF n (fullF n m)).Pairwise fun x y => nearF (fullF n m) x y = true := i2
  generalize crowdF n (fullF n m) = c at i2
  have q : (c.map fun x => x % m).length ≤ (rgI 0 m).length := by
    refine nodup_len ?_ fun z hz => ?_
    · rw [List.nodup_iff_pairwise_ne, List.pairwise_map]
      refine i2.imp fun {a b} hn e => ?_
      rcases near_iff.mp hn with k | k
      · exact full_mem k (Int.emod_eq_emod_iff_emod_sub_eq_zero.mp e.symm)
      · exact full_mem k (Int.emod_eq_emod_iff_emod_sub_eq_zero.mp e)
    · obtain ⟨x, _, rfl⟩ := List.mem_map.mp hz
      exact rgI_mem.mpr ⟨Int.emod_nonneg _ (by omega), Int.emod_lt_of_pos _ (by omega)⟩
  rw [List.length_map, rgI_len] at q
  omega
theorem full_sorted (n m : Int) : (fullF n m).Pairwise fun p q => SrtO.lexB q p = false := by
  have lt : (fullF n m).Pairwise fun p q => p.1 < q.1 ∨ (p.1 = q.1 ∧ p.2 < q.2) := by
    unfold fullF
    rw [List.pairwise_flatMap]
    refine ⟨fun i _ => ?_, (rgI_lt 0 n).imp fun {i j} h p hp q hq => ?_⟩
    · unfold fullRow
      rw [List.pairwise_map]
      exact ((rgI_lt (i + 1) n).sublist List.filter_sublist).imp fun h => .inr ⟨rfl, h⟩
    · have a := (fullRow_mem.mp hp).1
      have b := (fullRow_mem.mp hq).1
      exact .inl (by omega)
  refine lt.imp fun {p q} h => ?_
  cases e : SrtO.lexB q p with
  | false => rfl
  | true =>
    have := SrtO.lexB_iff.mp e
    omega
end SC

/-! SCJ2: law 1's mirrors: all webs of few places; dicts of pairs; ranges with a step. -/
namespace SC
open PySem PySem.Spec PyProof.Rows L2 Evl
/-! ### dicts of pairs -/
def kP (p : Int × Int) : List Key := [.inl p.1, .inl p.2]
theorem kP_inj {p q : Int × Int} (h : kP p = kP q) : p = q := by
  obtain ⟨a, b⟩ := p
  obtain ⟨c, d⟩ := q
  simp only [kP, List.cons.injEq, Sum.inl.injEq, and_true] at h
  rw [h.1, h.2]
/-- the dict holds just these -/
def KIs (kvs : List (List Key × V)) (ks : List (Int × Int)) : Prop := kvs.map (·.1) = ks.map kP
theorem KIs.has : ∀ {kvs : List (List Key × V)} {ks : List (Int × Int)}, KIs kvs ks → ∀ p, (valV kvs (kP p)).isSome = decide (p ∈ ks)
  | [], [], _, p => rfl
  | [], _ :: _, h, _ => by cases h
  | _ :: _, [], h, _ => by cases h
  | kv :: kvs, k :: ks, h, p => by
    have h' : kv.1 :: kvs.map (·.1) = kP k :: ks.map kP := h
    obtain ⟨h1, h2⟩ := List.cons.inj h'
    by_cases e : p = k
    · rw [valV_pos (by rw [h1, e]), decide_eq_true (by rw [e]; exact List.mem_cons_self)]
      rfl
    · rw [valV_neg (fun z => e (kP_inj (z.symm.trans h1))), KIs.has (show KIs kvs ks from h2) p]
      by_cases m : p ∈ ks
      · rw [decide_eq_true m, decide_eq_true (List.mem_cons_of_mem _ m)]
      · rw [decide_eq_false m, decide_eq_false fun z => m ((List.mem_cons.mp z).resolve_left e)]
theorem KIs.len {kvs : List (List Key × V)} {ks : List (Int × Int)} (h : KIs kvs ks) : kvs.length = ks.length := by
  have := congrArg List.length h
  rwa [List.length_map, List.length_map] at this
theorem KIs.put {kvs : List (List Key × V)} {ks : List (Int × Int)} (h : KIs kvs ks) {p : Int × Int} (hp : p ∉ ks) (v : V) : KIs (putK kvs (kP p) v) (ks ++ [p]) := by
  have no : ¬ (kvs.any fun kv => decide (kv.1 = kP p)) = true := fun z => by
    obtain ⟨kv, hkv, e⟩ := List.any_eq_true.mp z
    have m : kv.1 ∈ kvs.map (·.1) := List.mem_map.mpr ⟨kv, hkv, rfl⟩
    rw [of_decide_eq_true e, h] at m
    obtain ⟨q, hq, e2⟩ := List.mem_map.mp m
    exact hp (kP_inj e2 ▸ hq)
  unfold putK KIs
  rw [if_neg no, List.map_append, List.map_append, h]
  rfl
section
variable {n : Bool} {K : PySem.W.Frag} {w : World} {σ : L2.St} {H : Hp} {te tk : TE} {tas : TA} {hm : Addr} {kvs : List (List Key × V)} {ks : List (Int × Int)} {j : Nat}
/-- p in d, d a name -/
theorem d_inDT {p : Int × Int} (hv : σ[j]? = some (some (.ref hm))) (hd : H hm = some (.dT kvs)) (hk : KIs kvs ks) (h : EvD tk σ H (pD p)) : EvD (tOp (rUIn K) tk (tVar j)) σ H (.bool (decide (p ∈ ks))) := fun H1 e1 Q q => h H1 e1 _ fun x H2 e2 hx _ => ⟨_, hv, by
  obtain ⟨b, ys, rfl, hb, hy⟩ := Dt.tup_inv (show Dt H2 x (.tuple [.int p.1, .int p.2]) from hx)
  obtain ⟨u1, u2, rfl, q1, q2⟩ := hy.two
  cases q1.int_inv
  cases q2.int_inv
  refine .inr (.inr ⟨hm, _, rfl, DGet.t (k := kP p) (e2 _ _ (e1 _ _ hd)) hb, ?_⟩)
  rw [hk.has p]
  exact q _ H2 e2 (.bl _) Fr.no⟩
/-- len(d) -/
theorem d_lenDT (hv : σ[j]? = some (some (.ref hm))) (hd : H hm = some (.dT kvs)) (hk : KIs kvs ks) : EvD (tCB (rULen K w) (tCons (tVar j) tNil)) σ H (.int (ks.length : Nat)) := fun H1 e1 Q q => ⟨_, hv, by
  refine .inr (.inr (.inl ⟨hm, kvs, rfl, e1 _ _ hd, ?_⟩))
  rw [hk.len]
  exact q _ H1 (Ex.refl H1) (.int _) Fr.no⟩
/-- a range with a step -/
theorem dw_range3 {i j c : Int} {n : Nat} (h : EvAs tas σ H [.int i, .int j, .int c]) (hr : RgC i j c n) : DW (iRng3 tas) σ H ((List.range n).map fun k => .int (i + (k : Nat) * c)) := fun H1 e1 R k => h H1 e1 _ fun vs H2 e2 hv => by
  obtain ⟨v1, v2, v3, rfl, a, b, d⟩ := hv.three
  cases a.int_inv
  cases b.int_inv
  cases d.int_inv
  refine ⟨i, j, c, n, rfl, hr, k _ H2 e2 ?_⟩
  rw [List.length_map, List.length_range]
  exact walk_rangeC.mono (fun _ _ => trivial) fun i' H' x H'' hi _ ⟨y1, y2⟩ => ⟨y1 ▸ Ex.refl _, _, by rw [List.getElem?_map, List.getElem?_range hi]; rfl, by rw [y2]; exact .int _⟩
end
theorem steps_ok : ∀ L : Fin 64, 1 + (L.val : Int) / 12 ≠ 0 ∧ (1 + (L.val : Int) / 12).natAbs < 1073741824 ∧ Builtin.Range.small 0 (L.val : Int) (1 + (L.val : Int) / 12) = true ∧ Builtin.Range.rangeSize 0 (L.val : Int) (1 + (L.val : Int) / 12) = (((L.val + L.val / 12) / (1 + L.val / 12) : Nat) : Int) ∧
    (L.val + L.val / 12) / (1 + L.val / 12) * (1 + L.val / 12) ≤ L.val + L.val / 12 := by decide +kernel
theorem rgC_ok {L : Nat} (h : L ≤ 63) : RgC 0 (L : Int) (1 + (L : Int) / 12) ((L + L / 12) / (1 + L / 12)) := by
  obtain ⟨a, b, c, d, _⟩ := steps_ok ⟨L, by omega⟩
  exact ⟨a, b, c, d⟩
theorem step_lt {L k : Nat} (h : L ≤ 63) (hk : k < (L + L / 12) / (1 + L / 12)) : k * (1 + L / 12) < L := by
  obtain ⟨_, _, _, _, e⟩ := steps_ok ⟨L, by omega⟩
  have e : (L + L / 12) / (1 + L / 12) * (1 + L / 12) ≤ L + L / 12 := e
  have : (k + 1) * (1 + L / 12) ≤ (L + L / 12) / (1 + L / 12) * (1 + L / 12) := Nat.mul_le_mul_right _ hk
  have : (k + 1) * (1 + L / 12) = k * (1 + L / 12) + (1 + L / 12) := Nat.succ_mul _ _
  omega
/-! ### all webs of few places -/
def nxtF (so : List Int) : Int := so.getLastD (-1) + 1
def woStep (ks : List (Int × Int)) (w : List Int → Bool) (so : List Int) (p : Int) : Bool := (so.all fun o => decide ((o, p) ∈ ks)) && !w (so ++ [p])
def wo (n : Int) (ks : List (Int × Int)) (m : Int) : Nat → List Int → Bool
  | 0, _ => false
  | f + 1, so => !decide (m < (so.length : Int)) && !(rgI (nxtF so) n).any (woStep ks (wo n ks m f) so)
def tiesTo (k : Int) (prs : List (Int × Int)) : Nat → List (Int × Int)
  | 0 => []
  | i + 1 => if k / 2 ^ i % 2 = 1 then tiesTo k prs i ++ [prs.getD i (0, 0)] else tiesTo k prs i
def bestTo (n m : Int) : Nat → Int
  | 0 => 0
  | k + 1 => if (decide (bestTo n m k < ((tiesTo (k : Int) (everyF n) (everyF n).length).length : Int)) && wo n (tiesTo (k : Int) (everyF n) (everyF n).length) m 4 []) = true then ((tiesTo (k : Int) (everyF n) (everyF n).length).length : Int) else bestTo n m k
def triedF (n m : Int) : Int := bestTo n m (2 ^ (everyF n).length)
theorem tried_ok : ∀ i j : Fin 3, triedF (2 + (i.val : Int)) (1 + (j.val : Int)) = mostT (2 + (i.val : Int)) (1 + (j.val : Int)) := by decide +kernel
theorem tried_most {n m : Int} (h1 : 2 ≤ n) (h2 : n ≤ 4) (h3 : 1 ≤ m) (h4 : m ≤ 3) : triedF n m = mostT n m := by
  have q := tried_ok ⟨(n - 2).toNat, by omega⟩ ⟨(m - 1).toNat, by omega⟩
  have e1 : 2 + (((n - 2).toNat : Nat) : Int) = n := by omega
  have e2 : 1 + (((m - 1).toNat : Nat) : Int) = m := by omega
  rw [e1, e2] at q
  exact q
theorem tiesTo_sub (k : Int) (prs : List (Int × Int)) : ∀ i, i ≤ prs.length → ∀ p ∈ tiesTo k prs i, p ∈ prs.take i
  | 0, _, p, h => nomatch h
  | i + 1, hi, p, h => by
    have hat : prs[i]? = some (prs.getD i (0, 0)) := by
      rw [List.getD_eq_getElem?_getD, List.getElem?_eq_getElem (by omega)]
      rfl
    rw [take_at hat]
    unfold tiesTo at h
    split at h
    · rcases List.mem_append.mp h with q | q
      · exact List.mem_append_left _ (tiesTo_sub k prs i (by omega) p q)
      · exact List.mem_append_right _ q
    · exact List.mem_append_left _ (tiesTo_sub k prs i (by omega) p h)
theorem tiesTo_new {k : Int} {prs : List (Int × Int)} (nd : prs.Nodup) {i : Nat} {p : Int × Int} (h : prs[i]? = some p) : p ∉ tiesTo k prs i := fun z => by
  have hi := (List.getElem?_eq_some_iff.mp h).1
  have q := tiesTo_sub k prs i (by omega) p z
  have e : prs = prs.take i ++ p :: prs.drop (i + 1) := by
    have q := (List.take_append_drop i prs).symm
    rwa [drop_at h] at q
  rw [e] at nd
  exact (List.nodup_append.mp nd).2.2 p q p List.mem_cons_self rfl
theorem tiesTo_len (k : Int) (prs : List (Int × Int)) : ∀ i, (tiesTo k prs i).length ≤ i
  | 0 => Nat.le_refl _
  | i + 1 => by
    have ih := tiesTo_len k prs i
    unfold tiesTo
    split
    · rw [List.length_append]
      show (tiesTo k prs i).length + 1 ≤ i + 1
      omega
    · omega
/-! ### promises -/
def RFullR (ds : List PyData) (d : PyData) : Prop := ∃ n m : Int, ds = [.int n, .int m] ∧ 1 ≤ n ∧ n ≤ 60 ∧ 1 ≤ m ∧ m ≤ 1000 ∧ d = .bool true
def RTried (ds : List PyData) (d : PyData) : Prop := ∃ n m : Int, ds = [.int n, .int m] ∧ 2 ≤ n ∧ n ≤ 4 ∧ 1 ≤ m ∧ m ≤ 3 ∧ d = .int (triedF n m)
def spWo (f : Nat) : Sp := fun vs H Q _ => ∃ (n m : Int) (ks : List (Int × Int)) (hm : Addr) (kvs : List (List Key × V)) (vz : V) (so : List Int), vs = [.int n, .ref hm, vz, .int m] ∧ H hm = some (.dT kvs) ∧ KIs kvs ks ∧ Dt H vz (.list (iL so)) ∧ 0 ≤ n ∧ n ≤ 60 ∧ (∀ x ∈ so, 0 ≤ x ∧ x < 60) ∧ so.length + f ≤ 60 ∧
  m + 1 ≤ ((so.length + f : Nat) : Int) ∧ Kd false (.bool (wo n ks m f so)) H Q
theorem nxt_mem {so : List Int} (h : so ≠ []) : atI (iL so) (-1) = some (.int (so.getLastD (-1))) := by
  have hl : 0 < so.length := List.length_pos_iff.mpr h
  have ll : (iL so).length = so.length := List.length_map _
  unfold atI ixN
  rw [ll, if_neg (by decide), if_pos (by omega)]
  show (iL so)[(-1 + (so.length : Int)).toNat]? = _
  rw [show (-1 + (so.length : Int)).toNat = so.length - 1 by omega]
  unfold iL
  rw [List.getElem?_map, ← List.getLast?_eq_getElem?, List.getLastD_eq_getLast?]
  cases e : so.getLast? with
  | none => exact absurd (List.getLast?_eq_none_iff.mp e) h
  | some x => rfl
theorem nxt_bd {so : List Int} (h : ∀ x ∈ so, 0 ≤ x ∧ x < 60) : 0 ≤ nxtF so ∧ nxtF so ≤ 60 := by
  unfold nxtF
  rw [List.getLastD_eq_getLast?]
  cases e : so.getLast? with
  | none => exact ⟨by decide, by decide⟩
  | some x =>
    have := h x (List.mem_of_getLast? e)
    show 0 ≤ x + 1 ∧ x + 1 ≤ 60
    omega
/-! ### a chain of three as a test -/
section
variable {X : Cx} {a b c d : Expr} {ta tb tc td : TE} {pos : Pos}
theorem pt_chain3 {op op' op'' : CmpOp} {r r' r'' : R2} (ho : OpR X (compareOp op) r) (ho' : OpR X (compareOp op') r') (ho'' : OpR X (compareOp op'') r'') (ha : PE X a ta) (hb : PE X b tb) (hc : PE X c tc) (hd : PE X d td)
    (hm : lastMarks [op, op', op''] [b, c, d] = false := by with_unfolding_all rfl) : PT X (.Compare a [op, op', op''] [b, c, d] pos) (tTest (tChain3 r r' r'' ta tb tc td)) := by
  refine ⟨fun pins s σ H Q I h => ?_⟩
  refine isTrue_chain (thn (ha.run pins s σ H _ I h) fun v s1 ⟨x, H1, I1, r1, q1⟩ => test_link (thn (hb.run pins s1 σ H1 _ I1 q1) fun u s2 ⟨y, H2, I2, r2, q2⟩ =>
    thn (ho pins s2 σ H2 x y v u _ I2 r1 r2 q2) fun d s3 ⟨z, H3, I3, r3, k, e, q3⟩ => ?_)) hm
  subst e
  cases r3
  refine wpAny_truthy_bool ?_
  cases k with
  | false =>
    obtain ⟨k', e', q'⟩ := q3
    cases e'
    exact ite_ff ⟨H3, I3, q'⟩
  | true =>
    refine ite_tt (test_link (thn (hc.run pins s3 σ H3 _ I3 q3) fun w' s4 ⟨z', H4, I4, r4, q4⟩ => thn (ho' pins s4 σ H4 y z' u w' _ I4 r2 r4 q4) fun d' s5 ⟨z2, H5, I5, r5, k2, e2, q5⟩ => ?_))
    subst e2
    cases r5
    refine wpAny_truthy_bool ?_
    cases k2 with
    | false =>
      obtain ⟨k', e', q'⟩ := q5
      cases e'
      exact ite_ff ⟨H5, I5, q'⟩
    | true =>
      refine ite_tt (test_last (thn (hd.run pins s5 σ H5 _ I5 q5) fun w6 s6 ⟨z6, H6, I6, r6, q6⟩ => thn (ho'' pins s6 σ H6 z' z6 w' w6 _ I6 r4 r6 q6) fun d7 s7 ⟨z7, H7, I7, r7, k3, e3, q7⟩ => ?_))
      subst e3
      cases r7
      exact wpAny_truthy_bool ⟨H7, I7, q7⟩
end
end SC

/-! SC5: law 5's own: odd things, lists of unlike things, defs that raise, caught errors. -/
namespace SC
open PySem PySem.Spec PyProof.Rows L2 Evl
/-! ### what raises -/
/-- called so, an error of the class C leaves -/
def spX (R : List V → Hp → Addr → Prop) : Sp := fun vs H _ E => ∃ C, R vs H C ∧ ∀ H', Ex H H' → E (.ref C) none H'
section
variable {P : Program} {w : World} {K : PySem.W.Frag} {mg : Str → Option Value} {base : Heap} {N ps : List Str} {k : Nat} {x : Str} {st : Stmt} {R : List V → Hp → Addr → Prop}
theorem Cal.ofX (F : FDef K mg x st) (S : FnScope N ps (defScope st)) (len : ∀ vs H C, R vs H C → vs.length = ps.length)
    (hb : ∀ (kV doc pm : Value) (an : Option Addr) (cdv ct : Value) (us : List Value), us.length = ps.length → bindArgs (PySem.W.fnOf x x (defArgs st) (defBody st) (defScope st) .none kV doc pm an cdv ct) ⟨us, []⟩ = pure (ps.zip us))
    (body : ∀ (f : Addr) (cdv : Value) (A : Around) (outer : List Env) (s : Shared) (H : Hp) (vs : List V) (C : Addr) (E : XK), Room k (A.deeper (envOfC x (defScope st) s.heap.objs.size f cdv)) → R vs H C → (∀ H', Ex H H' → E (.ref C) none H') →
      ∃ t, PSs (cx0 (L2.CX P w) P w K mg base N x st f cdv A outer s H E) (defBody st) t ∧ ∀ D, t D (start N vs) H) : Cal P w K mg base (L2.CX P w) (k + 1) x ps (spX R) := by
  obtain ⟨f, fd, F, hm⟩ := F
  exact ⟨f, fd, F.ok S (fun vs H Q E ⟨C, h, _⟩ => len vs H C h) (fun cdv A outer s H vs Q E hr ⟨C, h, k⟩ => by
    obtain ⟨t, h1, h2⟩ := body f cdv A outer s H vs C E hr h k
    exact ⟨t, h1, h2 _⟩), hm, F.kp, F.bindsN hb⟩
end
/-- an own error's class -/
structure ExT (K : PySem.W.Frag) (mg : Str → Option Value) (x : Str) (C : Addr) : Prop where
  q : PySem.W.excIn K C He.veBase "ValueError.__new__" = true
  g : mg x = some (.ref C)
  kp : PySem.W.keepIn K (.ref C) = true
  s1 : PySem.W.subIn K (.ref C) (.type "BaseException") = some true
  s2 : PySem.W.typeIn K (.ref C) = some (.type "type")
def tRaise (C : Addr) (E : XK) : TS := fun _ _ H => E (.ref C) none H
section
variable {X : Cx} {x m : Str} {C : Addr} {E : XK} {j : Nat} {p p2 pos pos2 apos : Pos}
theorem ps_raiseX (T : ExT X.K X.mg x C) (hc : X.calm = true) (tk : Takes X (fun cls d _ H => E cls d H)) (hg : L2.Gl X x) (hdb : (x == ("__debug__" : Str)) = false := by decide) : PS X (.Raise (some (.Call (.Name x p) [.Constant (.str m) j p2] [] pos)) none pos2) (tRaise C E) :=
  ps_raise hc tk (pmk_own PySem.F.excBase_ValueError T.q T.g T.kp (raises_own T.s1 T.s2) hg hdb)
theorem passX (tk : Takes X (fun cls d _ H => E cls d H)) : Passes (L2.CX X.prog X.w) X E := passes_call tk fun _ _ _ _ h => h
variable {CX : CXT} {k : Nat} {ps : List Str} {sp : Sp} {e : Expr} {es : List Expr} {t : TA}
theorem pe_calS {E : L2.St → XK} (c : Cal X.prog X.w X.K X.mg X.base CX k x ps sp) (hr : Room k X.A) (hg : L2.Gl X x) (hx : ∀ σ, PassesAt CX X σ (E σ)) (ha : PA X (e :: es) t) (hdb : (x == ("__debug__" : Str)) = false := by decide)
    (he : starEach (e :: es) X.env = (false, eval e X.env) :: starEach es X.env := by rfl) (hpl : (backTo pos (starEach es X.env)).any (·.1) = false := by rfl) : PE X (.Call (.Name x p) (e :: es) [] pos) (tCallS sp E t) := by
  obtain ⟨f, fd, F, hm, hk, hb⟩ := c.ex
  exact pe_callS F hr hg hm hk hb hx ha hdb he hpl
/-- isinstance of the error that an except suite holds -/
def rIsE2 (K : PySem.W.Frag) (cls : Value) (d : Option Addr) (a : Addr) : List V → Hp → VK → Prop := fun xs H Q => ∃ (c : V) (cv : Value) (b : Bool) (D : Addr), xs = [.ref a, c] ∧ (∀ u, RelV c u → u = cv) ∧ cls = .ref D ∧ d = none ∧ ExcC K D ∧ PySem.W.kitOne K (.ref D) cv = some b ∧ Q (.bl b) H
theorem call_isE2 {a : Addr} {oe : Obj} {cls : Value} {d : Option Addr} {pn : List (Addr × Obj)} (hz : Zc cls d oe) (hf : ∃ vs, oe.data = .fields vs) : CallR (X.suite a ((a, oe) :: pn)) (.builtin "isinstance") (rIsE2 X.K cls d a) := by
  intro pins s σ H xs us Q I r h
  obtain ⟨c, cv, b, D, rfl, hcv, rfl, rfl, C, e, q⟩ := h
  exact call_isE C hz hf pins s σ H _ us Q I r ⟨c, cv, b, rfl, hcv, e, q⟩
end
/-! ### no numbers -/
inductive NoN (H : Hp) : V → Prop
  | non : NoN H .non
  | bl (b : Bool) : NoN H (.bl b)
  | str (x : Str) : NoN H (.str x)
  | lst {a : Addr} {xs : List V} (h : H a = some (.lst xs)) : NoN H (.ref a)
  | tup {a : Addr} {xs : List V} (h : H a = some (.tup xs)) : NoN H (.ref a)
  | dct {a : Addr} {kvs : List (Key × V)} (h : H a = some (.dK kvs)) : NoN H (.ref a)
theorem NoN.ex {H H' : Hp} {v : V} (e : Ex H H') (h : NoN H v) : NoN H' v := by
  cases h with
  | non => exact .non
  | bl b => exact .bl b
  | str x => exact .str x
  | lst h => exact .lst (e _ _ h)
  | tup h => exact .tup (e _ _ h)
  | dct h => exact .dct (e _ _ h)
def isI : PyData → Bool
  | .int _ => true
  | _ => false
theorem Dt.num {H : Hp} {v : V} {d : PyData} (h : Dt H v d) : (∃ i, v = .int i ∧ isI d = true) ∨ (NoN H v ∧ isI d = false) := by
  cases h with
  | non => exact .inr ⟨.non, rfl⟩
  | bl b => exact .inr ⟨.bl b, rfl⟩
  | int i => exact .inl ⟨i, rfl, rfl⟩
  | str x => exact .inr ⟨.str x, rfl⟩
  | lst h _ => exact .inr ⟨.lst h, rfl⟩
  | tup h _ => exact .inr ⟨.tup h, rfl⟩
def spNum : Sp := fun vs H Q _ => ∃ v, vs = [v] ∧ ((∃ i, v = .int i ∧ Kd false (.bool true) H Q) ∨ (NoN H v ∧ Kd false (.bool false) H Q))
section
variable {K : PySem.W.Frag} {P : Program} {w : World} {σ : L2.St} {H : Hp} {te tl ti : TE} {tas : TA} {E : XK} {v : V} {i j : Nat} {d : PyData} {D : Ends} {tz : TS}
theorem d_isiV {S T : String} {b : Bool} (hv : σ[i]? = some (some v)) (ty : ∀ H', Ex H H' → TyX K H' v (.type S)) (hb : kitB S T = some b) : EvD (tCB (rIsi K) (tCons (tVar i) (tCons (tC (.ty T)) tNil))) σ H (.bool b) := fun H1 e1 Q q =>
  ⟨_, hv, v, .ty T, .type S, .type T, b, rfl, .ty T, ty H1 e1, kit_ty hb, q _ H1 (Ex.refl H1) (.bl b) Fr.no⟩
theorem d_numI {k : Int} (hv : σ[i]? = some (some (.int k))) : EvD (tCall spNum [] E (tCons (tVar i) tNil)) σ H (.bool true) := fun H1 e1 Q q => ⟨_, hv, _, rfl, .inl ⟨k, rfl, q⟩⟩
theorem d_numN (hv : σ[i]? = some (some v)) (h : NoN H v) : EvD (tCall spNum [] E (tCons (tVar i) tNil)) σ H (.bool false) := fun H1 e1 Q q => ⟨_, hv, _, rfl, .inr ⟨h.ex e1, q⟩⟩
theorem d_numD (h : EvD te σ H d) : EvD (tCall spNum [] E (tCons te tNil)) σ H (.bool (isI d)) := fun H1 e1 Q q => h H1 e1 _ fun v H2 e2 hv _ => by
  rcases hv.num with ⟨k, rfl, e⟩ | ⟨n, e⟩
  · exact ⟨_, rfl, .inl ⟨k, rfl, by rw [e] at q; exact q.back e2⟩⟩
  · exact ⟨_, rfl, .inr ⟨n, by rw [e] at q; exact q.back e2⟩⟩
/-- is_number's own word of no number -/
theorem d_noN (hv : σ[i]? = some (some v)) (h : NoN H v) : EvD (tAndV (tCB (rIsi K) (tCons (tVar i) (tCons (tC (.ty "int")) tNil))) (tNotV (tCB (rIsi K) (tCons (tVar i) (tCons (tC (.ty "bool")) tNil))))) σ H (.bool false) := by
  cases h with
  | bl b => exact EvR.is (d_and (a := true) (b := !true) (d_isiV hv (fun _ _ => .base (.bl b)) (show kitB "bool" "int" = some true by decide +kernel)) fun _ => d_not (d_isiV hv (fun _ _ => .base (.bl b)) (show kitB "bool" "bool" = some true by decide +kernel))) rfl
  | non => exact EvR.is (d_and (a := false) (b := false) (d_isiV hv (fun _ _ => .base .non) (show kitB "NoneType" "int" = some false by decide +kernel)) fun h => nomatch h) rfl
  | str x => exact EvR.is (d_and (a := false) (b := false) (d_isiV hv (fun _ _ => .base (.str x)) (show kitB "str" "int" = some false by decide +kernel)) fun h => nomatch h) rfl
  | lst h => exact EvR.is (d_and (a := false) (b := false) (d_isiV hv (fun _ e => .base (.lst (e _ _ h))) (show kitB "list" "int" = some false by decide +kernel)) fun h => nomatch h) rfl
  | tup h => exact EvR.is (d_and (a := false) (b := false) (d_isiV hv (fun _ e => .base (.tup (e _ _ h))) (show kitB "tuple" "int" = some false by decide +kernel)) fun h => nomatch h) rfl
  | dct h => exact EvR.is (d_and (a := false) (b := false) (d_isiV hv (fun _ e => .base (.dK (e _ _ h))) (show kitB "dict" "int" = some false by decide +kernel)) fun h => nomatch h) rfl
end
def BadP (H : Hp) (v : V) : Prop := NoN H v ∨ ∃ i : Int, v = .int i ∧ ¬ (1 ≤ i ∧ i ≤ 60)
def BadM (H : Hp) (v : V) : Prop := NoN H v ∨ ∃ i : Int, v = .int i ∧ i < 1
theorem BadP.ex {H H' : Hp} {v : V} (e : Ex H H') (h : BadP H v) : BadP H' v := h.imp (NoN.ex e) id
theorem BadM.ex {H H' : Hp} {v : V} (e : Ex H H') (h : BadM H v) : BadM H' v := h.imp (NoN.ex e) id
/-! ### no ties -/
def tie4 : PyData → Bool
  | .tuple [.int a, .int b] => decide (0 ≤ a) && (decide (a < b) && decide (b < 4))
  | _ => false
def twin5 : List (Int × Int) := [(0, 1), (1, 2), (0, 1)]
inductive BadT (H : Hp) : V → Prop
  | dct {a : Addr} {kvs : List (Key × V)} (h : H a = some (.dK kvs)) : BadT H (.ref a)
  | odd {v : V} {d : PyData} (h : Dt H v d) (n : ∀ ds, d ≠ .list ds) : BadT H v
  | some_ {v : V} {ds : List PyData} (h : Dt H v (.list ds)) (l : ds.length ≤ 1000) (b : ds.all tie4 = false) : BadT H v
  | twin {v : V} (h : Dt H v (.list (pL twin5))) : BadT H v
theorem BadT.ex {H H' : Hp} {v : V} (e : Ex H H') (h : BadT H v) : BadT H' v := by
  cases h with
  | dct h => exact .dct (e _ _ h)
  | odd h n => exact .odd (h.ex e) n
  | some_ h l b => exact .some_ (h.ex e) l b
  | twin h => exact .twin (h.ex e)
def RTieD (ds : List PyData) (d : PyData) : Prop := ∃ x, ds = [x, .int 4] ∧ d = .bool (tie4 x)
/-! ### lists of unlike things -/
inductive TH
  | dt (d : PyData)
  | dct
inductive Th (H : Hp) : V → TH → Prop
  | dt {v : V} {d : PyData} (h : Dt H v d) : Th H v (.dt d)
  | dct {a : Addr} (h : H a = some (.dK [])) : Th H (.ref a) .dct
inductive ThAll (H : Hp) : List V → List TH → Prop
  | nil : ThAll H [] []
  | cons {v : V} {vs : List V} {d : TH} {ds : List TH} : Th H v d → ThAll H vs ds → ThAll H (v :: vs) (d :: ds)
section
variable {H H' : Hp} {v : V} {vs ws : List V} {d : TH} {ds es : List TH}
theorem Th.ex (e : Ex H H') (h : Th H v d) : Th H' v d := by
  cases h with
  | dt h => exact .dt (h.ex e)
  | dct h => exact .dct (e _ _ h)
theorem ThAll.ex (e : Ex H H') : ∀ {vs : List V} {ds : List TH}, ThAll H vs ds → ThAll H' vs ds
  | _, _, .nil => .nil
  | _, _, .cons h t => .cons (h.ex e) (ThAll.ex e t)
theorem ThAll.length : ∀ {vs : List V} {ds : List TH}, ThAll H vs ds → vs.length = ds.length
  | _, _, .nil => rfl
  | _, _, .cons _ t => congrArg Nat.succ (ThAll.length t)
theorem ThAll.append : ∀ {vs : List V} {ds : List TH}, ThAll H vs ds → ThAll H ws es → ThAll H (vs ++ ws) (ds ++ es)
  | _, _, .nil, k => k
  | _, _, .cons h t, k => .cons h (ThAll.append t k)
theorem ThAll.get : ∀ {vs : List V} {ds : List TH} {i : Nat} {d : TH}, ThAll H vs ds → ds[i]? = some d → ∃ v, vs[i]? = some v ∧ Th H v d
  | _, _, _, _, .nil, e => by cases e
  | _, _, 0, _, .cons h _, e => by
    cases e
    exact ⟨_, rfl, h⟩
  | _, _, i + 1, d, .cons _ t, e => ThAll.get (i := i) t e
end
/-- a list of such -/
def HL (H : Hp) (v : V) (ds : List TH) : Prop := ∃ a xs, v = .ref a ∧ H a = some (.lst xs) ∧ ThAll H xs ds
theorem HL.ex {H H' : Hp} {v : V} {ds : List TH} (e : Ex H H') (h : HL H v ds) : HL H' v ds := by
  obtain ⟨a, xs, h1, h2, h3⟩ := h
  exact ⟨a, xs, h1, e _ _ h2, h3.ex e⟩
def EvTh (te : TE) (σ : L2.St) (H : Hp) (d : TH) : Prop := ∀ H1, Ex H H1 → ∀ Q : VK, (∀ v H2, Ex H1 H2 → Th H2 v d → Q v H2) → te σ H1 Q
def EvThs (ta : TA) (σ : L2.St) (H : Hp) (ds : List TH) : Prop := ∀ H1, Ex H H1 → ∀ Q : List V → Hp → Prop, (∀ vs H2, Ex H1 H2 → ThAll H2 vs ds → Q vs H2) → ta σ H1 Q
def EvHL (te : TE) (σ : L2.St) (H : Hp) (ds : List TH) : Prop := ∀ H1, Ex H H1 → ∀ Q : VK, (∀ v H2, Ex H1 H2 → HL H2 v ds → Q v H2) → te σ H1 Q
section
variable {n : Bool} {K : PySem.W.Frag} {σ : L2.St} {H H' : Hp} {ta tb te : TE} {tas : TA} {v : V} {d : PyData} {th : TH} {ds es : List TH} {i : Nat} {D : Ends} {tz : TS}
theorem h_dt (h : EvR n te σ H d) : EvTh te σ H (.dt d) := fun H1 e Q q => h H1 e Q fun v H2 e2 hv _ => q v H2 e2 (.dt hv)
theorem h_dct : EvTh tDNewK σ H .dct := fun H1 e Q q => fun p hp => q _ _ (Ex.new hp) (.dct upd_same)
theorem h_nil : EvThs tNil σ H [] := fun H1 _ Q q => q [] H1 (Ex.refl H1) .nil
theorem h_cons (h : EvTh te σ H th) (ht : EvThs tas σ H ds) : EvThs (tCons te tas) σ H (th :: ds) := fun H1 e1 Q q => h H1 e1 _ fun v H2 e2 hv => ht H2 (e1.trans e2) _ fun vs H3 e3 hvs => q _ H3 (e2.trans e3) (.cons (hv.ex e3) hvs)
theorem h_lst (h : EvThs tas σ H ds) (hl : ds.length ≤ 1000) : EvHL (tLst tas) σ H ds := fun H1 e1 Q q => h H1 e1 _ fun vs H2 e2 hv => ⟨by rw [hv.length, sizeLine_eq]; omega, fun p hp => q _ _ (e2.trans (Ex.new hp)) ⟨p, vs, rfl, upd_same, hv.ex (Ex.new hp)⟩⟩
theorem h_var (h : σ[i]? = some (some v)) (hd : HL H v ds) : EvHL (tVar i) σ H ds := fun H1 e Q q => ⟨v, h, q v H1 (Ex.refl H1) (hd.ex e)⟩
theorem h_cat (h1 : EvHL ta σ H ds) (h2 : EvHL tb σ H es) (hl : ds.length + es.length ≤ 1000) : EvHL (tOp rUAdd ta tb) σ H (ds ++ es) := fun H1 e1 Q q => h1 H1 e1 _ fun u H2 e2 hu => h2 H2 (e1.trans e2) _ fun v H3 e3 hv => by
  obtain ⟨a, xs, rfl, ha, hx⟩ := hu.ex e3
  obtain ⟨b, ys, rfl, hb, hy⟩ := hv
  refine .inr ⟨a, b, xs, ys, rfl, rfl, ha, hb, ?_, fun p hp => q _ _ ((e2.trans e3).trans (Ex.new hp)) ⟨p, xs ++ ys, rfl, upd_same, (hx.append hy).ex (Ex.new hp)⟩⟩
  rw [hx.length, hy.length, sizeLine_eq]
  omega
theorem h_ix {k : Nat} (h : EvHL ta σ H ds) (hi : EvD tb σ H (.int (k : Int))) (hk : ds[k]? = some th) : EvTh (tOp (rUIx K) ta tb) σ H th := fun H1 e1 Q q => h H1 e1 _ fun u H2 e2 hu => hi H2 (e1.trans e2) _ fun v H3 e3 hv _ => by
  cases hv.int_inv
  obtain ⟨a, xs, rfl, ha, hx⟩ := hu.ex e3
  obtain ⟨w, hw, hd⟩ := hx.get hk
  exact .inl ⟨a, xs, (k : Int), w, rfl, rfl, sq_of ha, atI_nat hw, q w H3 (e2.trans e3) hd⟩
theorem q_letH {j : Nat} (h : EvHL te σ H ds) (k : ∀ v H1, Ex H H1 → HL H1 v ds → tz D (σ.set j (some v)) H1) : tSeq (tAsg te (gName j)) tz D σ H := h H (Ex.refl H) _ k
end
/-! ### sets of few tuples, with twins -/
section
variable {X : Cx} {K : PySem.W.Frag} {P : Program} {w : World}
def rLenTO (K : PySem.W.Frag) (P : Program) (w : World) : List V → Hp → VK → Prop := fun xs H Q => ∃ (a : Addr) (L : List (Addr × List Int)), xs = [V.ref a] ∧ H a = some (SetTO P w a L) ∧ (∀ p ∈ L, SqT K H p.1 (p.2.map V.int)) ∧ ((L.map (·.2)).Nodup → Q (.int (L.length : Nat)) H)
theorem call_lenTO (e : X.K = K) (e2 : X.prog = P) (e3 : X.w = w) : CallR X (.builtin "len") (rLenTO K P w) := by
  subst e e2 e3
  intro pins s σ H xs us Q I r h
  obtain ⟨a, L, rfl, ha, hk, q⟩ := h
  rw [Vals.ref1 r]
  have R0 : SetT0 X.prog X.w s.heap a L := (I.hok a _ ha).1
  obtain ⟨es, ep, t, R⟩ := R0.full fun p hp => I.isT (hk p hp)
  obtain ⟨o, ho, hx, hd⟩ := R.ob
  have f := R.few
  have z := R.size
  exact call_len_set ho hx hd R.fits (by rw [z]; omega) ⟨.int (L.length : Nat), H, I.tok _, ⟨_, by rw [z]⟩, q R.nd⟩
theorem cr_setOfTK (e : X.K = K) (e2 : X.prog = P) (e3 : X.w = w) (hc : X.calm = true) (hu : X.A.units + 64 < cLine) : CallR X (.type "set") (rSetOfT K P w) := by
  subst e e2 e3
  exact cr_setOfT hc hu
variable {σ : L2.St} {H : Hp} {te : TE}
/-- len(set([(0, 1), (1, 2), (0, 1)])) -/
theorem t_twin (h : EvD te σ H (.list (pL twin5))) {tn : TE} (hn : EvD tn σ H (.int 3)) : EvT (tTest (tOp (rNeD K) (tCB (rLenTO K P w) (tCons (tCB (rSetOfT K P w) (tCons te tNil)) tNil)) tn)) σ H true := t_test (fun H1 e1 Q q => h H1 e1 _ fun v H2 e2 hv _ => by
  obtain ⟨l, xs, rfl, hl, hx⟩ := hv.lst_inv
  obtain ⟨ks, rfl, k2, k3⟩ := pairs_ks (K := K) hx
  have kl : ks.length = 3 := by
    have := congrArg List.length k2
    rwa [List.length_map] at this
  refine ⟨l, ks, rfl, sq_of hl, k3, by omega, fun a L ha sub all => ⟨a, L, rfl, upd_same, fun p hp => ?_, fun nd => ?_⟩⟩
  · exact ex_t (Ex.new ha) (k3 p (sub p hp))
  · have le : L.length ≤ 2 := by
      have q := List.Nodup.length_le_of_subset (l₂ := [[(0 : Int), 1], [1, 2]]) nd fun z hz => by
        obtain ⟨p, hp, rfl⟩ := List.mem_map.mp hz
        have : p.2 ∈ ks.map (·.2) := List.mem_map.mpr ⟨p, sub p hp, rfl⟩
        rw [k2] at this
        have : p.2 ∈ [[(0 : Int), 1], [1, 2], [0, 1]] := this
        simp only [List.mem_cons, List.not_mem_nil, or_false] at this ⊢
        rcases this with z | z | z
        · exact .inl z
        · exact .inr z
        · exact .inl z
      rw [List.length_map] at q
      exact q
    refine hn _ (e1.trans (e2.trans (Ex.new ha))) _ fun u H4 e4 hu _ => ?_
    refine (rd_neI : RD false (rNeD K) (.int ((L.length : Nat) : Int)) (.int 3) H4 _) _ u H4 (Ex.refl H4) (.int _) hu _ fun z H5 e5 hz _ => ?_
    rw [decide_eq_false (by omega)] at hz
    exact q z H5 (((e2.trans (Ex.new ha)).trans e4).trans e5) hz Fr.no)
end
end SC

namespace SC
open PySem PySem.Spec PyProof.Rows L2 Evl
def top (i : Nat) : Stmt := PySem.Challenge.pw_surecrowd_k05_refused.main.body.getD i (.Pass ⟨0, 0, 0, 0⟩)
abbrev s_wall : Stmt := top 0
abbrev s_is_number : Stmt := top 8
abbrev s_is_tie : Stmt := top 9
abbrev s_asked_places : Stmt := top 10
abbrev s_asked_web : Stmt := top 11
abbrev s_asked_many : Stmt := top 12
abbrev s_near_of : Stmt := top 13
abbrev s_most_ties : Stmt := top 16
abbrev s_Crowd_init : Stmt := inClass (top 17) 0
abbrev s_Crowd_shows : Stmt := inClass (top 17) 1
abbrev s_Full_init : Stmt := inClass (top 18) 0
abbrev s_Full_shows : Stmt := inClass (top 18) 1
abbrev s_Spare_init : Stmt := inClass (top 19) 0
abbrev s_Spare_shows : Stmt := inClass (top 19) 1
abbrev s_Parted_init : Stmt := inClass (top 20) 0
abbrev s_Parted_shows : Stmt := inClass (top 20) 1
abbrev s_Three_init : Stmt := inClass (top 21) 0
abbrev s_Three_shows : Stmt := inClass (top 21) 1
abbrev s_crowd_of : Stmt := top 23
abbrev s_groups_of : Stmt := top 24
abbrev s_bar_of : Stmt := top 25
abbrev s_parted : Stmt := top 26
abbrev s_told : Stmt := top 27
abbrev s_most : Stmt := top 29
abbrev s_fullest : Stmt := top 30
abbrev s_law_with_places : Stmt := top 32
abbrev s_law_bad_ties : Stmt := top 33
abbrev s_law_told : Stmt := top 34
abbrev s_law : Stmt := top 35
abbrev N_wall : List Str := ["k"]
theorem sc_wall : FnScope N_wall ["k"] (defScope s_wall) := ⟨rfl, rfl, rfl, by decide +kernel, rfl, by decide +kernel, by decide +kernel⟩
abbrev N_is_number : List Str := ["thing"]
theorem sc_is_number : FnScope N_is_number ["thing"] (defScope s_is_number) := ⟨rfl, rfl, rfl, by decide +kernel, rfl, by decide +kernel, by decide +kernel⟩
abbrev N_is_tie : List Str := ["thing", "places", "one"]
theorem sc_is_tie : FnScope N_is_tie ["thing", "places"] (defScope s_is_tie) := ⟨rfl, rfl, rfl, by decide +kernel, rfl, by decide +kernel, by decide +kernel⟩
abbrev N_asked_places : List Str := ["places"]
theorem sc_asked_places : FnScope N_asked_places ["places"] (defScope s_asked_places) := ⟨rfl, rfl, rfl, by decide +kernel, rfl, by decide +kernel, by decide +kernel⟩
abbrev N_asked_web : List Str := ["places", "ties", "tie"]
theorem sc_asked_web : FnScope N_asked_web ["places", "ties"] (defScope s_asked_web) := ⟨rfl, rfl, rfl, by decide +kernel, rfl, by decide +kernel, by decide +kernel⟩
abbrev N_asked_many : List Str := ["many"]
theorem sc_asked_many : FnScope N_asked_many ["many"] (defScope s_asked_many) := ⟨rfl, rfl, rfl, by decide +kernel, rfl, by decide +kernel, by decide +kernel⟩
abbrev N_near_of : List Str := ["places", "ties", "found", "place", "one", "other"]
theorem sc_near_of : FnScope N_near_of ["places", "ties"] (defScope s_near_of) := ⟨rfl, rfl, rfl, by decide +kernel, rfl, by decide +kernel, by decide +kernel⟩
abbrev N_most_ties : List Str := ["places", "many", "less", "more", "alone"]
theorem sc_most_ties : FnScope N_most_ties ["places", "many"] (defScope s_most_ties) := ⟨rfl, rfl, rfl, by decide +kernel, rfl, by decide +kernel, by decide +kernel⟩
abbrev N_Crowd_init : List Str := ["self", "some"]
theorem sc_Crowd_init : FnScope N_Crowd_init ["self", "some"] (defScope s_Crowd_init) := ⟨rfl, rfl, rfl, by decide +kernel, rfl, by decide +kernel, by decide +kernel⟩
abbrev N_Crowd_shows : List Str := ["self", "places", "ties", "many"]
theorem sc_Crowd_shows : FnScope N_Crowd_shows ["self", "places", "ties", "many"] (defScope s_Crowd_shows) := ⟨rfl, rfl, rfl, by decide +kernel, rfl, by decide +kernel, by decide +kernel⟩
abbrev N_Full_init : List Str := ["self", "groups", "group"]
theorem sc_Full_init : FnScope N_Full_init ["self", "groups"] (defScope s_Full_init) := ⟨rfl, rfl, rfl, by decide +kernel, rfl, by decide +kernel, by decide +kernel⟩
abbrev N_Full_shows : List Str := ["self", "places", "ties", "many"]
theorem sc_Full_shows : FnScope N_Full_shows ["self", "places", "ties", "many"] (defScope s_Full_shows) := ⟨rfl, rfl, rfl, by decide +kernel, rfl, by decide +kernel, by decide +kernel⟩
abbrev N_Spare_init : List Str := ["self", "ties"]
theorem sc_Spare_init : FnScope N_Spare_init ["self", "ties"] (defScope s_Spare_init) := ⟨rfl, rfl, rfl, by decide +kernel, rfl, by decide +kernel, by decide +kernel⟩
abbrev N_Spare_shows : List Str := ["self", "places", "ties", "many"]
theorem sc_Spare_shows : FnScope N_Spare_shows ["self", "places", "ties", "many"] (defScope s_Spare_shows) := ⟨rfl, rfl, rfl, by decide +kernel, rfl, by decide +kernel, by decide +kernel⟩
abbrev N_Parted_init : List Str := ["self", "groups", "group"]
theorem sc_Parted_init : FnScope N_Parted_init ["self", "groups"] (defScope s_Parted_init) := ⟨rfl, rfl, rfl, by decide +kernel, rfl, by decide +kernel, by decide +kernel⟩
abbrev N_Parted_shows : List Str := ["self", "places", "ties"]
theorem sc_Parted_shows : FnScope N_Parted_shows ["self", "places", "ties"] (defScope s_Parted_shows) := ⟨rfl, rfl, rfl, by decide +kernel, rfl, by decide +kernel, by decide +kernel⟩
abbrev N_Three_init : List Str := ["self", "one", "other", "third"]
theorem sc_Three_init : FnScope N_Three_init ["self", "one", "other", "third"] (defScope s_Three_init) := ⟨rfl, rfl, rfl, by decide +kernel, rfl, by decide +kernel, by decide +kernel⟩
abbrev N_Three_shows : List Str := ["self", "places", "ties"]
theorem sc_Three_shows : FnScope N_Three_shows ["self", "places", "ties"] (defScope s_Three_shows) := ⟨rfl, rfl, rfl, by decide +kernel, rfl, by decide +kernel, by decide +kernel⟩
abbrev N_crowd_of : List Str := ["places", "ties", "near", "left", "found", "counts", "other", "place", "best"]
theorem sc_crowd_of : FnScope N_crowd_of ["places", "ties"] (defScope s_crowd_of) := ⟨rfl, rfl, rfl, by decide +kernel, rfl, by decide +kernel, by decide +kernel⟩
abbrev N_groups_of : List Str := ["places", "ties", "near", "found", "place", "group", "other"]
theorem sc_groups_of : FnScope N_groups_of ["places", "ties"] (defScope s_groups_of) := ⟨rfl, rfl, rfl, by decide +kernel, rfl, by decide +kernel, by decide +kernel⟩
abbrev N_bar_of : List Str := ["places", "ties", "near", "one", "other", "third"]
theorem sc_bar_of : FnScope N_bar_of ["places", "ties"] (defScope s_bar_of) := ⟨rfl, rfl, rfl, by decide +kernel, rfl, by decide +kernel, by decide +kernel⟩
abbrev N_parted : List Str := ["places", "ties", "bar"]
theorem sc_parted : FnScope N_parted ["places", "ties"] (defScope s_parted) := ⟨rfl, rfl, rfl, by decide +kernel, rfl, by decide +kernel, by decide +kernel⟩
abbrev N_told : List Str := ["places", "ties", "many", "spare", "found"]
theorem sc_told : FnScope N_told ["places", "ties", "many"] (defScope s_told) := ⟨rfl, rfl, rfl, by decide +kernel, rfl, by decide +kernel, by decide +kernel⟩
abbrev N_most : List Str := ["places", "many"]
theorem sc_most : FnScope N_most ["places", "many"] (defScope s_most) := ⟨rfl, rfl, rfl, by decide +kernel, rfl, by decide +kernel, by decide +kernel⟩
abbrev N_fullest : List Str := ["places", "many", "found", "one", "other"]
theorem sc_fullest : FnScope N_fullest ["places", "many"] (defScope s_fullest) := ⟨rfl, rfl, rfl, by decide +kernel, rfl, by decide +kernel, by decide +kernel⟩
abbrev N_law_with_places : List Str := ["_law_door", "_law_places"]
theorem sc_law_with_places : FnScope N_law_with_places ["_law_door", "_law_places"] (defScope s_law_with_places) := ⟨rfl, rfl, rfl, by decide +kernel, rfl, by decide +kernel, by decide +kernel⟩
abbrev N_law_bad_ties : List Str := ["_law_which", "_law_more", "_law_bad", "_law_ties", "_law_strange"]
theorem sc_law_bad_ties : FnScope N_law_bad_ties ["_law_which", "_law_more"] (defScope s_law_bad_ties) := ⟨rfl, rfl, rfl, by decide +kernel, rfl, by decide +kernel, by decide +kernel⟩
abbrev N_law_told : List Str := ["_law_kind", "_law_which", "_law_more", "_law_strange", "_law_bad", "error", "_law_found"]
theorem sc_law_told : FnScope N_law_told ["_law_kind", "_law_which", "_law_more"] (defScope s_law_told) := ⟨rfl, rfl, rfl, by decide +kernel, rfl, by decide +kernel, by decide +kernel⟩
abbrev N_law : List Str := ["_law_script", "_law_cell", "_law_kind", "_law_due", "_law_at"]
theorem sc_law : FnScope N_law ["_law_script"] (defScope s_law) := ⟨rfl, rfl, rfl, by decide +kernel, rfl, by decide +kernel, by decide +kernel⟩
end SC

/-! P1: most_ties. -/
namespace SC
open PySem PySem.Spec PyProof.Rows L2 Evl
local macro_rules | `(tactic| walk_at "rd") => `(tactic| first
  | with_reducible exact rd_addI | with_reducible exact rd_i0 | with_reducible exact rd_b0
  | with_reducible exact rd_eqI | with_reducible exact rd_neI | with_reducible exact rd_eqL | with_reducible exact rd_neL | with_reducible exact rd_eqB | with_reducible exact rd_neB
  | with_reducible exact rd_eqP | with_reducible exact rd_neP | with_reducible exact rd_neQ
  | with_reducible exact rd_inI | with_reducible exact rd_notInI | with_reducible exact rd_inP | with_reducible exact rd_notInP
  | with_reducible refine rd_i ?_)
local macro_rules | `(tactic| walk_at "d") => `(tactic| repeat' first
  | with_reducible exact d_int | with_reducible exact d_bl | with_reducible exact d_non | with_reducible exact d_str
  | ((with_reducible apply d_vI); exact rfl) | ((with_reducible apply d_vB); exact rfl) | exact d_var rfl (by assumption)
  | with_reducible apply d_op | with_reducible exact da_nil | with_reducible apply da_cons | walk_at "rd" | with_reducible exact dp_none | with_reducible apply dp_some | with_reducible exact t_yes)

section
variable {P : Program} {w : World} {K : PySem.W.Frag} {mg : Str → Option Value} {base : Heap}
theorem ok_most_ties (T : Bl mg) (F : FDef K mg "most_ties" s_most_ties) : Cal P w K mg base CX0 1 "most_ties" ["places", "many"] (spF false RMost) := by
  refine Cal.ofR F sc_most_ties (fun ds d ⟨p, m, e, _⟩ => by rw [e] <;> rfl) (fun _ _ _ _ _ _ us hl => match us, hl with | [_, _], _ => rfl) (fun f cdv A outer s H E hr vs ds d Q hv hR k => ?_)
  obtain ⟨p, m, rfl, h1, h2, h3, rfl⟩ := hR
  obtain ⟨v1, v2, rfl, a1, a2⟩ := hv.two
  cases a1.int_inv
  cases a2.int_inv
  refine ⟨_, (pss_cons (ps_asg (pe_callB call_divmodW rfl T.divmod bo_divmod (pa_cons (pv 0) (pa_cons (pv 1) pa_nil))) (pg_tupK (K := K) (n := 2) rfl rfl (pgs_cons (pg_name (i := 2) sc_most_ties.nd rfl (Or.inl rfl)) (pgs_cons (pg_name (i := 3) sc_most_ties.nd rfl (Or.inl rfl)) pgs_nil))))
    (pss_cons (ps_set (i := 4) sc_most_ties.nd rfl (Or.inl rfl) (pe_op op_uAdd (pe_op op_mulX (pv 1) (pe_op op_fdivW (pe_op op_mulX (pv 2) (pe_op op_sub (pv 2) pe_int)) pe_int)) (pe_op op_mulX (pv 3) (pv 2))))
    (pss_one (ps_ret (pe_op op_sub (pe_op op_fdivW (pe_op op_mulX (pv 0) (pe_op op_sub (pv 0) pe_int)) pe_int) (pv 4)))))), ?_⟩
  have zl : Sz 401 (p / m) := h1.div (by omega)
  have zm : Sz 400 (p % m) := h2.mod (by omega)
  have z1 : Sz 400 (1 : Int) := (show Sz 1 1 from Sz.of (by decide)).mono (by decide)
  refine q_asg (d_divmod (i := p) (j := m) (by walk_at "d") (Sz.divP (by omega) h2 (by decide))) fun v H1 e1 hv _ => ?_
  refine g_pair hv fun v1 v2 q1 q2 => ?_
  cases q1.int_inv
  cases q2.int_inv
  refine q_letI (k := m * (p / m * (p / m - 1) / 2) + p % m * (p / m)) ?_ fun H2 e2 => ?_
  · walk_at "d"
    · exact zl.mulX (zl.sub (z1.mono (by decide))) (by decide)
    · exact div2
    · exact h2.mulX ((zl.mul (zl.sub (z1.mono (by decide)))).div (by decide)) (by decide)
    · exact zm.mulX zl (by decide)
  · refine r_d (d := .int (mostT p m)) ?_ (k.back (e1.trans e2))
    show EvD _ _ _ (.int (p * (p - 1) / 2 - (m * (p / m * (p / m - 1) / 2) + p % m * (p / m))))
    walk_at "d"
    · exact h1.mulX (h1.sub z1) (by decide)
    · exact div2
end
end SC

/-! P2: near_of, is_crowd. -/
namespace SC
open PySem PySem.Spec PyProof.Rows L2 Evl
local macro_rules | `(tactic| walk_at "rd") => `(tactic| first
  | with_reducible exact rd_addI | with_reducible exact rd_i0 | with_reducible exact rd_b0
  | with_reducible exact rd_eqI | with_reducible exact rd_neI | with_reducible exact rd_eqL | with_reducible exact rd_neL | with_reducible exact rd_eqB | with_reducible exact rd_neB
  | with_reducible exact rd_eqP | with_reducible exact rd_neP | with_reducible exact rd_neQ
  | with_reducible exact rd_inI | with_reducible exact rd_notInI | with_reducible exact rd_inP | with_reducible exact rd_notInP
  | with_reducible refine rd_i ?_)
local macro_rules | `(tactic| walk_at "d") => `(tactic| repeat' first
  | with_reducible exact d_int | with_reducible exact d_bl | with_reducible exact d_non | with_reducible exact d_str
  | ((with_reducible apply d_vI); exact rfl) | ((with_reducible apply d_vB); exact rfl) | exact d_var rfl (by assumption)
  | with_reducible apply d_op | with_reducible exact da_nil | with_reducible apply da_cons | walk_at "rd" | with_reducible exact dp_none | with_reducible apply dp_some | with_reducible exact t_yes)


section
variable {P : Program} {w : World} {K : PySem.W.Frag} {mg : Str → Option Value} {base : Heap}
theorem ok_near_of (T : Bl mg) (F : FDef K mg "near_of" s_near_of) : Cal P w K mg base CX0 1 "near_of" ["places", "ties"] spNear := by
  refine Cal.of F sc_near_of (fun vs H Q E ⟨n, ps, v, e, _⟩ => by rw [e] <;> rfl) (fun _ _ _ _ _ _ us hl => match us, hl with | [_, _], _ => rfl) (fun f cdv A outer s H vs Q E hr h => ?_)
  refine ⟨t_near K, (pss_cons (ps_setLc (i := 2) (own := [("place", 3)]) (tt := tYes) rfl sc_near_of.nd rfl rfl (sw_true rfl rfl rfl (by decide +kernel)) (pi_range1 rfl T.range (pa_cons (pv 0) pa_nil)) (blkOk_by (N := N_near_of) (sc := defScope s_near_of) (by decide +kernel)) (fun _ _ _ _ _ => (pg_name (i := 3) sc_near_of.nd rfl (Or.inl rfl))) (fun _ _ _ _ _ => pts_nil) (fun _ _ _ _ _ => pe_dnewK))
    (pss_cons (ps_for PassesOwn.never rfl (pi_listK (K := K) rfl (pv 1)) (pg_tupK (K := K) (n := 2) rfl rfl (pgs_cons (pg_name (i := 4) sc_near_of.nd rfl (Or.inl rfl)) (pgs_cons (pg_name (i := 5) sc_near_of.nd rfl (Or.inl rfl)) pgs_nil)))
      (pss_cons (ps_dput (hu_of hr) (pe_ix (ix_K (K := K) rfl) (pv 2) (pv 4) (fun _ _ => rfl)) (pv 5) pe_bl rfl)
      (pss_one (ps_dput (hu_of hr) (pe_ix (ix_K (K := K) rfl) (pv 2) (pv 5) (fun _ _ => rfl)) (pv 4) pe_bl rfl))))
    (pss_one (ps_ret (pv 2))))), near_walk h⟩
end
end SC

/-! P6: the answers' methods. -/
namespace SC
open PySem PySem.Spec PyProof.Rows L2 Evl
local macro_rules | `(tactic| walk_at "rd") => `(tactic| first
  | with_reducible exact rd_addI | with_reducible exact rd_i0 | with_reducible exact rd_b0
  | with_reducible exact rd_eqI | with_reducible exact rd_neI | with_reducible exact rd_eqL | with_reducible exact rd_neL | with_reducible exact rd_eqB | with_reducible exact rd_neB
  | with_reducible exact rd_eqP | with_reducible exact rd_neP | with_reducible exact rd_neQ
  | with_reducible exact rd_inI | with_reducible exact rd_notInI | with_reducible exact rd_inP | with_reducible exact rd_notInP
  | with_reducible refine rd_i ?_)
local macro_rules | `(tactic| walk_at "d") => `(tactic| repeat' first
  | with_reducible exact d_int | with_reducible exact d_bl | with_reducible exact d_non | with_reducible exact d_str
  | ((with_reducible apply d_vI); exact rfl) | ((with_reducible apply d_vB); exact rfl) | exact d_var rfl (by assumption)
  | with_reducible apply d_op | with_reducible exact da_nil | with_reducible apply da_cons | walk_at "rd" | with_reducible exact dp_none | with_reducible apply dp_some | with_reducible exact t_yes)

section
variable {P : Program} {w : World} {K : PySem.W.Frag} {mg : Str → Option Value} {base : Heap} {C : Addr}
theorem ok_Crowd_init (T : Bl mg) (X : KCls K mg "Crowd" C ["some"]) (F : IDef K C "Crowd.__init__" s_Crowd_init) : ICal P w K mg base CX0 1 "Crowd" C ["self", "some"] (spCrowdI C) := by
  refine ICal.of F X.g sc_Crowd_init (fun vs H Q E ⟨x, dx, v, xs, e, _⟩ => by rw [e] <;> rfl) (fun _ _ _ _ _ _ us hl => match us, hl with | [_, _], _ => rfl) (fun f cdv A outer s H vs Q E hr h => ?_)
  obtain ⟨x, dx, v, xs, rfl, hx, hv, k⟩ := h
  refine ⟨_, (pss_one (ps_fld (pv 0) (pe_callTy (cr_listK (K := K) rfl) rfl T.list bo_list (pa_cons (pv 1) pa_nil)) rfl)), ?_⟩
  refine (d_cb1 (d_var rfl hv) rc_listL : EvR true _ _ H _) H (Ex.refl H) _ fun y H1 e1 hy fr => ?_
  obtain ⟨p, rfl, hpn⟩ := fr rfl
  obtain ⟨p2, ys, ep, hp, hys⟩ := hy.lst_inv
  cases ep
  cases hys.iL_inv
  have nxp : x ≠ p := ne_of_none hx hpn
  refine ⟨_, rfl, x, C, dx, [], rfl, e1 _ _ hx, X.cl, X.no _ (by decide), by decide, k p _ hpn (fun b o hb ne => by rw [upd_ne ne]; exact e1 b o hb) upd_same (by rw [upd_ne nxp.symm]; exact hp)⟩
theorem ok_Full_init (T : Bl mg) (X : KCls K mg "Full" C ["groups"]) (F : IDef K C "Full.__init__" s_Full_init) : ICal P w K mg base CX0 1 "Full" C ["self", "groups"] (spGroupsI C) := by
  refine ICal.of F X.g sc_Full_init (fun vs H Q E ⟨x, dx, v, xs, e, _⟩ => by rw [e] <;> rfl) (fun _ _ _ _ _ _ us hl => match us, hl with | [_, _], _ => rfl) (fun f cdv A outer s H vs Q E hr h => ?_)
  obtain ⟨x, dx, v, gs, rfl, hx, hv, hg, k⟩ := h
  refine ⟨_, (pss_one (ps_fld (pv 0) (pe_lc (own := [("group", 2)]) (tt := tYes) rfl sc_Full_init.nd (pi_listK (K := K) rfl (pv 1)) (blkOk_by (N := N_Full_init) (sc := defScope s_Full_init) (by decide +kernel)) (fun _ _ _ _ _ => (pg_name (i := 2) sc_Full_init.nd rfl (Or.inl rfl))) (fun _ _ _ _ _ => pts_nil) (fun _ _ _ _ _ => (pe_callTy (cr_listK (K := K) rfl) rfl T.list bo_list (pa_cons (pv 2) pa_nil)))) rfl)), ?_⟩
  refine lc_new (l := gs) (emb := gD) (fun g => g) (dw_list (d_var rfl hv)) (by omega) (fun g hgm y H1 e1 hy => turn_name rfl t_yes fun _ => d_cb1 (d_var rfl hy) rc_listL) (Ex.refl H) fun p ps H1 e1 G => ?_
  rw [List.map_id'] at G
  have nxp : ∀ q ∈ p :: ps, q ≠ x := fun q hq z => by
    have := G.new q hq
    rw [z, hx] at this
    cases this
  refine ⟨_, rfl, x, C, dx, [], rfl, e1 _ _ hx, X.cl, X.no _ (by decide), by decide, k p ps _ (fun b o hb ne => by rw [upd_ne ne]; exact e1 b o hb) upd_same ⟨by rw [upd_ne (nxp p List.mem_cons_self)]; exact G.at_, G.nd, G.new, G.len, fun i q g h1 h2 => ?_⟩⟩
  rw [upd_ne (nxp q (List.mem_cons_of_mem _ (List.mem_of_getElem? h1)))]
  exact G.each i q g h1 h2
theorem ok_Parted_init (T : Bl mg) (X : KCls K mg "Parted" C ["groups"]) (F : IDef K C "Parted.__init__" s_Parted_init) : ICal P w K mg base CX0 1 "Parted" C ["self", "groups"] (spGroupsI C) := by
  refine ICal.of F X.g sc_Parted_init (fun vs H Q E ⟨x, dx, v, xs, e, _⟩ => by rw [e] <;> rfl) (fun _ _ _ _ _ _ us hl => match us, hl with | [_, _], _ => rfl) (fun f cdv A outer s H vs Q E hr h => ?_)
  obtain ⟨x, dx, v, gs, rfl, hx, hv, hg, k⟩ := h
  refine ⟨_, (pss_one (ps_fld (pv 0) (pe_lc (own := [("group", 2)]) (tt := tYes) rfl sc_Parted_init.nd (pi_listK (K := K) rfl (pv 1)) (blkOk_by (N := N_Parted_init) (sc := defScope s_Parted_init) (by decide +kernel)) (fun _ _ _ _ _ => (pg_name (i := 2) sc_Parted_init.nd rfl (Or.inl rfl))) (fun _ _ _ _ _ => pts_nil) (fun _ _ _ _ _ => (pe_callTy (cr_listK (K := K) rfl) rfl T.list bo_list (pa_cons (pv 2) pa_nil)))) rfl)), ?_⟩
  refine lc_new (l := gs) (emb := gD) (fun g => g) (dw_list (d_var rfl hv)) (by omega) (fun g hgm y H1 e1 hy => turn_name rfl t_yes fun _ => d_cb1 (d_var rfl hy) rc_listL) (Ex.refl H) fun p ps H1 e1 G => ?_
  rw [List.map_id'] at G
  have nxp : ∀ q ∈ p :: ps, q ≠ x := fun q hq z => by
    have := G.new q hq
    rw [z, hx] at this
    cases this
  refine ⟨_, rfl, x, C, dx, [], rfl, e1 _ _ hx, X.cl, X.no _ (by decide), by decide, k p ps _ (fun b o hb ne => by rw [upd_ne ne]; exact e1 b o hb) upd_same ⟨by rw [upd_ne (nxp p List.mem_cons_self)]; exact G.at_, G.nd, G.new, G.len, fun i q g h1 h2 => ?_⟩⟩
  rw [upd_ne (nxp q (List.mem_cons_of_mem _ (List.mem_of_getElem? h1)))]
  exact G.each i q g h1 h2
theorem ok_Spare_init (T : Bl mg) (X : KCls K mg "Spare" C ["ties"]) (F : IDef K C "Spare.__init__" s_Spare_init) : ICal P w K mg base CX0 1 "Spare" C ["self", "ties"] (spSpareI C) := by
  refine ICal.of F X.g sc_Spare_init (fun vs H Q E ⟨x, dx, v, e, _⟩ => by rw [e] <;> rfl) (fun _ _ _ _ _ _ us hl => match us, hl with | [_, _], _ => rfl) (fun f cdv A outer s H vs Q E hr h => ?_)
  obtain ⟨x, dx, j, rfl, hx, k⟩ := h
  refine ⟨_, (pss_one (ps_fld (pv 0) (pv 1) rfl)), ?_⟩
  exact ⟨_, rfl, _, rfl, x, C, dx, [], rfl, hx, X.cl, X.no _ (by decide), by decide, k _ (fun b o hb ne => by rw [upd_ne ne]; exact hb) upd_same⟩
theorem ok_Three_init (T : Bl mg) (X : KCls K mg "Three" C ["one", "other", "third"]) (F : IDef K C "Three.__init__" s_Three_init) : ICal P w K mg base CX0 1 "Three" C ["self", "one", "other", "third"] (spThreeI C) := by
  refine ICal.of F X.g sc_Three_init (fun vs H Q E ⟨x, dx, a, b, c, e, _⟩ => by rw [e] <;> rfl) (fun _ _ _ _ _ _ us hl => match us, hl with | [_, _, _, _], _ => rfl) (fun f cdv A outer s H vs Q E hr h => ?_)
  obtain ⟨x, dx, a, b, c, rfl, hx, k⟩ := h
  refine ⟨_, (pss_cons (ps_fld (pv 0) (pv 1) rfl)
    (pss_cons (ps_fld (pv 0) (pv 2) rfl)
    (pss_one (ps_fld (pv 0) (pv 3) rfl)))), ?_⟩
  refine ⟨_, rfl, _, rfl, x, C, dx, [], rfl, hx, X.cl, X.no _ (by decide), by decide, ?_⟩
  refine ⟨_, rfl, _, rfl, x, C, dx, _, rfl, upd_same, X.cl, X.no _ (by decide), by show 1 < 1000; decide, ?_⟩
  refine ⟨_, rfl, _, rfl, x, C, dx, _, rfl, upd_same, X.cl, X.no _ (by decide), by show 2 < 1000; decide, k _ (fun b o hb ne => by rw [upd_ne ne, upd_ne ne, upd_ne ne]; exact hb) ?_⟩
  rw [upd_same]
  rfl
end
end SC

/-! PA: what is asked of a web. -/
namespace SC
open PySem PySem.Spec PyProof.Rows L2 Evl
local macro_rules | `(tactic| walk_at "rd") => `(tactic| first
  | with_reducible exact rd_addI | with_reducible exact rd_i0 | with_reducible exact rd_b0
  | with_reducible exact rd_eqI | with_reducible exact rd_neI | with_reducible exact rd_eqL | with_reducible exact rd_neL | with_reducible exact rd_eqB | with_reducible exact rd_neB
  | with_reducible exact rd_eqP | with_reducible exact rd_neP | with_reducible exact rd_neQ
  | with_reducible exact rd_inI | with_reducible exact rd_notInI | with_reducible exact rd_inP | with_reducible exact rd_notInP
  | with_reducible refine rd_i ?_)
local macro_rules | `(tactic| walk_at "d") => `(tactic| repeat' first
  | with_reducible exact d_int | with_reducible exact d_bl | with_reducible exact d_non | with_reducible exact d_str
  | ((with_reducible apply d_vI); exact rfl) | ((with_reducible apply d_vB); exact rfl) | exact d_var rfl (by assumption)
  | with_reducible apply d_op | with_reducible exact da_nil | with_reducible apply da_cons | walk_at "rd" | with_reducible exact dp_none | with_reducible apply dp_some | with_reducible exact t_yes)

section
variable {P : Program} {w : World} {K : PySem.W.Frag} {mg : Str → Option Value} {base : Heap}
theorem ok_is_number (T : Bl mg) (F : FDef K mg "is_number" s_is_number) : Cal P w K mg base CX0 1 "is_number" ["thing"] (spF false RIsNum) := by
  refine Cal.ofR F sc_is_number (fun ds d ⟨i, e, _⟩ => by rw [e] <;> rfl) (fun _ _ _ _ _ _ us hl => match us, hl with | [_], _ => rfl) (fun f cdv A outer s H E hr vs ds d Q hv hR k => ?_)
  obtain ⟨i, rfl, rfl⟩ := hR
  obtain ⟨v1, rfl, a1⟩ := hv.one
  cases a1.int_inv
  refine ⟨_, (pss_one (ps_ret (pe_and (pe_callB (call_isiK1 (K := K) rfl) rfl T.isinstance bo_isinstance (pa_cons (pv 0) (pa_cons (pe_bltn (v := .ty "int") rfl T.int bo_int rfl) pa_nil))) (pe_one (pe_not (pe_callB (call_isiK1 (K := K) rfl) rfl T.isinstance bo_isinstance (pa_cons (pv 0) (pa_cons (pe_bltn (v := .ty "bool") rfl T.bool bo_bool rfl) pa_nil)))))))), ?_⟩
  refine r_d (n := false) (d := .bool true) (EvR.is (d_and (a := true) (b := true) (d_isi (d_vI rfl) (show kitB "int" "int" = some true by decide +kernel)) fun _ => EvR.is (d_not (a := false) (d_isi (d_vI rfl) (show kitB "int" "bool" = some false by decide +kernel))) rfl) rfl) k
theorem ok_is_tie (T : Bl mg) (c_is_number : Cal P w K mg base CX0 1 "is_number" ["thing"] (spF false RIsNum)) (F : FDef K mg "is_tie" s_is_tie) : Cal P w K mg base CX0 2 "is_tie" ["thing", "places"] (spF false RIsTie) := by
  refine Cal.ofR F sc_is_tie (fun ds d ⟨p, n, e, _⟩ => by rw [e] <;> rfl) (fun _ _ _ _ _ _ us hl => match us, hl with | [_, _], _ => rfl) (fun f cdv A outer s H E hr vs ds d Q hv hR k => ?_)
  obtain ⟨p, n, rfl, h0, h1, h2, rfl⟩ := hR
  obtain ⟨v1, v2, rfl, a1, a2⟩ := hv.two
  cases a2.int_inv
  have a1 : Dt H v1 (.tuple [.int p.1, .int p.2]) := a1
  refine ⟨_, (pss_cons (ps_if (PW.pt (pw_or (pt_not (pt_val (pe_callB (call_isiK1 (K := K) rfl) rfl T.isinstance bo_isinstance (pa_cons (pv 0) (pa_cons (pe_bltn (v := .ty "tuple") rfl T.tuple bo_tuple rfl) pa_nil))))) (pw_or (pt_cmpR (op_neK (K := K) rfl (hu64 hr)) (pe_callB (call_lenK (K := K) (w := w) rfl rfl) rfl T.len bo_len (pa_cons (pv 0) pa_nil)) pe_int (nomark _)) (pw_or1 (pt_not (pt_val (pe_callB (cr_allK (K := K) rfl rfl) rfl T.all bo_all (pa_cons (pe_lc (own := [("one", 2)]) (tt := tYes) rfl sc_is_tie.nd (pi_tupK (K := K) rfl (pv 0)) (blkOk_by (N := N_is_tie) (sc := defScope s_is_tie) (by decide +kernel)) (fun _ _ _ _ _ => (pg_name (i := 2) sc_is_tie.nd rfl (Or.inl rfl))) (fun _ _ _ _ _ => pts_nil) (fun _ _ _ _ _ => (pe_cal c_is_number (hr.mono (by decide)) rfl pass0 (pa_cons (pv 2) pa_nil)))) pa_nil))))))))
      (pss_one (ps_ret pe_bl))
      pss_nil)
    (pss_one (ps_ret (pe_chain3 op_le op_lt op_lt pe_int (pe_ix (ix_K (K := K) rfl) (pv 0) pe_int (fun _ _ => rfl)) (pe_ix (ix_K (K := K) rfl) (pv 0) pe_int (fun _ _ => rfl)) (pv 1))))), ?_⟩
  refine q_when (b := !true || (!decide ((2 : Int) = 2) || !([p.1, p.2].all fun _ => true))) (et_or (et_not (t_B (d_isi (d_var rfl a1) (show kitB "tuple" "tuple" = some true by decide +kernel)))) fun _ => et_or (t_test (d_op (EvR.is (d_cb1 (d_var rfl a1) rc_lenT) rfl) d_int rd_neI)) fun _ => et_not (t_B (d_cb1 (d_lcM (l := [p.1, p.2]) (emb := PyData.int) (fun x => .bool true) (dw_tup (d_var rfl a1)) (by show 2 ≤ 1000000; decide) (fun _ _ => rfl) fun x _ v H1 e1 hv => ?_) rc_allM))) (fun hb => by simp at hb) fun _ H1 e1 => ?_
  · cases hv.int_inv
    exact turn_name rfl t_yes fun _ => d_call (da_cons (d_vI rfl) da_nil) (use_spF ⟨x, rfl, rfl⟩)
  refine r_d (n := false) (d := .bool true) (EvR.is (d_chain3 (a := true) (b := true) (c := true) d_int (d_op (d_var rfl (a1.ex e1)) d_int (rd_uIxT (at_int (j := 0) rfl rfl))) (RD.is rd_b0 (congrArg PyData.bool (decide_eq_true h0))) (fun _ => d_op (d_var rfl (a1.ex e1)) d_int (rd_uIxT (at_int (j := 1) rfl rfl))) (fun _ => RD.is rd_b0 (congrArg PyData.bool (decide_eq_true h1))) (fun _ _ => d_vI rfl) fun _ _ => RD.is rd_b0 (congrArg PyData.bool (decide_eq_true h2))) rfl) (k.back e1)
theorem ok_asked_places (T : Bl mg) (c_is_number : Cal P w K mg base CX0 1 "is_number" ["thing"] (spF false RIsNum)) (gM : ∃ t, mg "MOST" = some (.int 60 t)) (F : FDef K mg "asked_places" s_asked_places) : Cal P w K mg base CX0 2 "asked_places" ["places"] (spF false RAskP) := by
  refine Cal.ofR F sc_asked_places (fun ds d ⟨n, e, _⟩ => by rw [e] <;> rfl) (fun _ _ _ _ _ _ us hl => match us, hl with | [_], _ => rfl) (fun f cdv A outer s H E hr vs ds d Q hv hR k => ?_)
  obtain ⟨n, rfl, n1, n60, rfl⟩ := hR
  obtain ⟨v1, rfl, a1⟩ := hv.one
  cases a1.int_inv
  obtain ⟨t, g_MOST⟩ := gM
  refine ⟨_, (pss_one (ps_if (PW.pt (pw_or (pt_not (pt_val (pe_cal c_is_number (hr.mono (by decide)) rfl pass0 (pa_cons (pv 0) pa_nil)))) (pw_or1 (pt_not (pt_chain op_le op_le pe_int (pv 0) (pe_glob (v := .int 60) rfl g_MOST ⟨_, rfl⟩))))))
      (pss_one ps_never)
      pss_nil)), ?_⟩
  refine s_when (b := !true || !(decide (1 ≤ n) && decide (n ≤ 60))) (et_or (et_not (t_B (d_call (da_cons (d_vI rfl) da_nil) (use_spF ⟨n, rfl, rfl⟩)))) fun _ => et_not (t_test (d_chain d_int (d_vI rfl) rd_b0 (fun _ => d_int) (fun _ => rd_b0)))) (fun hb => ?_) fun _ H1 e1 => k.back e1 _ _ (Ex.refl _) .non Fr.no
  rw [decide_eq_true n1, decide_eq_true n60] at hb
  cases hb
theorem ok_asked_web (T : Bl mg) (c_is_tie : Cal P w K mg base CX0 2 "is_tie" ["thing", "places"] (spF false RIsTie)) (c_asked_places : Cal P w K mg base CX0 2 "asked_places" ["places"] (spF false RAskP)) (F : FDef K mg "asked_web" s_asked_web) :
    Cal P w K mg base CX0 3 "asked_web" ["places", "ties"] (spF false RAskW) := by
  refine Cal.ofR F sc_asked_web (fun ds d ⟨n, ps, e, _⟩ => by rw [e] <;> rfl) (fun _ _ _ _ _ _ us hl => match us, hl with | [_, _], _ => rfl) (fun f cdv A outer s H E hr vs ds d Q hv hR k => ?_)
  obtain ⟨n, ps, rfl, n1, n60, hW, hl, rfl⟩ := hR
  obtain ⟨v1, v2, rfl, a1, a2⟩ := hv.two
  cases a1.int_inv
  have lps : (pL ps).length = ps.length := List.length_map _
  refine ⟨_, (pss_cons (ps_expr (pe_cal c_asked_places (hr.mono (by decide)) rfl pass0 (pa_cons (pv 0) pa_nil)))
    (pss_cons (ps_if (PW.pt (pw_or (pt_not (pt_val (pe_callB (call_isiK1 (K := K) rfl) rfl T.isinstance bo_isinstance (pa_cons (pv 1) (pa_cons (pe_bltn (v := .ty "list") rfl T.list bo_list rfl) pa_nil))))) (pw_or1 (pt_not (pt_val (pe_callB (cr_allK (K := K) rfl rfl) rfl T.all bo_all (pa_cons (pe_lc (own := [("tie", 2)]) (tt := tYes) rfl sc_asked_web.nd (pi_listK (K := K) rfl (pv 1)) (blkOk_by (N := N_asked_web) (sc := defScope s_asked_web) (by decide +kernel)) (fun _ _ _ _ _ => (pg_name (i := 2) sc_asked_web.nd rfl (Or.inl rfl))) (fun _ _ _ _ _ => pts_nil) (fun _ _ _ _ _ => (pe_cal c_is_tie (hr.mono (by decide)) rfl pass0 (pa_cons (pv 2) (pa_cons (pv 0) pa_nil))))) pa_nil)))))))
      (pss_one ps_never)
      pss_nil)
    (pss_one (ps_if (pt_cmpR (op_neK (K := K) rfl (hu64 hr)) (pe_callB (call_lenP (w := w) rfl) rfl T.len bo_len (pa_cons (pe_callTy (cr_setP (K := K) (w := w) rfl rfl rfl (hu64 hr)) rfl T.set bo_set (pa_cons (pv 1) pa_nil)) pa_nil)) (pe_callB (call_lenK (K := K) (w := w) rfl rfl) rfl T.len bo_len (pa_cons (pv 1) pa_nil)) (nomark _))
      (pss_one ps_never)
      pss_nil)))), ?_⟩
  refine q_dropD (n := false) (d := .none) (d_call (da_cons (d_vI rfl) da_nil) (use_spF ⟨n, rfl, n1, n60, rfl⟩)) fun H1 e1 => ?_
  refine q_when (b := !true || !(ps.all fun _ => true)) (et_or (et_not (t_B (d_isi (d_var rfl (a2.ex e1)) (show kitB "list" "list" = some true by decide +kernel)))) fun _ => et_not (t_B (d_cb1 (d_lcM (l := ps) (emb := pD) (fun x => .bool true) (dw_list (d_var rfl (a2.ex e1))) (by omega) (fun _ _ => rfl) fun p hp v H2 e2 hv => ?_) rc_allM))) (fun hb => by simp at hb) fun _ H2 e2 => ?_
  · have hp2 := hW.tie p hp
    exact turn_name rfl t_yes fun _ => d_call (ds := [pD p, .int n]) (da_cons (d_var rfl hv) (da_cons (d_vI rfl) da_nil)) (use_spF ⟨p, n, rfl, hp2.1, hp2.2.1, hp2.2.2, rfl⟩)
  have b2 := a2.ex (e1.trans e2)
  refine s_when (b := !decide (((ps.length : Nat) : Int) = ((ps.length : Nat) : Int))) (t_test (d_op (d_lenSetP (d_var rfl b2) hl hW.nd) ((d_cb1 (d_var rfl b2) rc_lenL).is (by rw [lps])) rd_neI)) (fun hb => by rw [decide_eq_true rfl] at hb; cases hb) fun _ H3 e3 => k.back ((e1.trans e2).trans e3) _ _ (Ex.refl _) .non Fr.no
end
end SC

/-! PB: most, fullest. -/
namespace SC
open PySem PySem.Spec PyProof.Rows L2 Evl
local macro_rules | `(tactic| walk_at "rd") => `(tactic| first
  | with_reducible exact rd_addI | with_reducible exact rd_i0 | with_reducible exact rd_b0
  | with_reducible exact rd_eqI | with_reducible exact rd_neI | with_reducible exact rd_eqL | with_reducible exact rd_neL | with_reducible exact rd_eqB | with_reducible exact rd_neB
  | with_reducible exact rd_eqP | with_reducible exact rd_neP | with_reducible exact rd_neQ
  | with_reducible exact rd_inI | with_reducible exact rd_notInI | with_reducible exact rd_inP | with_reducible exact rd_notInP
  | with_reducible refine rd_i ?_)
local macro_rules | `(tactic| walk_at "d") => `(tactic| repeat' first
  | with_reducible exact d_int | with_reducible exact d_bl | with_reducible exact d_non | with_reducible exact d_str
  | ((with_reducible apply d_vI); exact rfl) | ((with_reducible apply d_vB); exact rfl) | exact d_var rfl (by assumption)
  | with_reducible apply d_op | with_reducible exact da_nil | with_reducible apply da_cons | walk_at "rd" | with_reducible exact dp_none | with_reducible apply dp_some | with_reducible exact t_yes)

section
variable {P : Program} {w : World} {K : PySem.W.Frag} {mg : Str → Option Value} {base : Heap}
theorem ok_asked_many (T : Bl mg) (c_is_number : Cal P w K mg base CX0 1 "is_number" ["thing"] (spF false RIsNum)) (F : FDef K mg "asked_many" s_asked_many) : Cal P w K mg base CX0 2 "asked_many" ["many"] (spF false RAskM) := by
  refine Cal.ofR F sc_asked_many (fun ds d ⟨n, e, _⟩ => by rw [e] <;> rfl) (fun _ _ _ _ _ _ us hl => match us, hl with | [_], _ => rfl) (fun f cdv A outer s H E hr vs ds d Q hv hR k => ?_)
  obtain ⟨m, rfl, m1, rfl⟩ := hR
  obtain ⟨v1, rfl, a1⟩ := hv.one
  cases a1.int_inv
  refine ⟨_, (pss_one (ps_if (PW.pt (pw_or (pt_not (pt_val (pe_cal c_is_number (hr.mono (by decide)) rfl pass0 (pa_cons (pv 0) pa_nil)))) (pw_or1 (pt_cmpR op_lt (pv 0) pe_int (nomark _)))))
      (pss_one ps_never)
      pss_nil)), ?_⟩
  refine s_when (b := !true || decide (m < 1)) (et_or (et_not (t_B (d_call (da_cons (d_vI rfl) da_nil) (use_spF ⟨m, rfl, rfl⟩)))) fun _ => t_test (d_op (d_vI rfl) d_int rd_b0)) (fun hb => ?_) fun _ H1 e1 => k.back e1 _ _ (Ex.refl _) .non Fr.no
  rw [decide_eq_false (by omega)] at hb
  cases hb
theorem ok_most (T : Bl mg) (c_is_number : Cal P w K mg base CX0 1 "is_number" ["thing"] (spF false RIsNum)) (c_asked_many : Cal P w K mg base CX0 2 "asked_many" ["many"] (spF false RAskM)) (c_most_ties : Cal P w K mg base CX0 1 "most_ties" ["places", "many"] (spF false RMost))
    (F : FDef K mg "most" s_most) : Cal P w K mg base CX0 3 "most" ["places", "many"] (spF false RDoorM) := by
  refine Cal.ofR F sc_most (fun ds d ⟨p, m, e, _⟩ => by rw [e] <;> rfl) (fun _ _ _ _ _ _ us hl => match us, hl with | [_, _], _ => rfl) (fun f cdv A outer s H E hr vs ds d Q hv hR k => ?_)
  obtain ⟨p, m, rfl, p1, zp, zm, m1, rfl⟩ := hR
  obtain ⟨v1, v2, rfl, a1, a2⟩ := hv.two
  cases a1.int_inv
  cases a2.int_inv
  refine ⟨_, (pss_cons (ps_if (PW.pt (pw_or (pt_not (pt_val (pe_cal c_is_number (hr.mono (by decide)) rfl pass0 (pa_cons (pv 0) pa_nil)))) (pw_or1 (pt_cmpR op_lt (pv 0) pe_int (nomark _)))))
      (pss_one ps_never)
      pss_nil)
    (pss_cons (ps_expr (pe_cal c_asked_many (hr.mono (by decide)) rfl pass0 (pa_cons (pv 1) pa_nil)))
    (pss_one (ps_ret (pe_cal c_most_ties (hr.mono (by decide)) rfl pass0 (pa_cons (pv 0) (pa_cons (pv 1) pa_nil))))))), ?_⟩
  refine q_when (b := !true || decide (p < 1)) (et_or (et_not (t_B (d_call (da_cons (d_vI rfl) da_nil) (use_spF ⟨p, rfl, rfl⟩)))) fun _ => t_test (d_op (d_vI rfl) d_int rd_b0)) (fun hb => ?_) fun _ H1 e1 => ?_
  · rw [decide_eq_false (by omega)] at hb
    cases hb
  refine q_dropD (n := false) (d := .none) (d_call (da_cons (d_vI rfl) da_nil) (use_spF ⟨m, rfl, m1, rfl⟩)) fun H2 e2 => ?_
  exact r_d (n := false) (d_call (da_cons (d_vI rfl) (da_cons (d_vI rfl) da_nil)) (use_spF ⟨p, m, rfl, zp, zm, m1, rfl⟩)) (k.back (e1.trans e2))
theorem ok_fullest (T : Bl mg) (c_asked_places : Cal P w K mg base CX0 2 "asked_places" ["places"] (spF false RAskP)) (c_asked_many : Cal P w K mg base CX0 2 "asked_many" ["many"] (spF false RAskM)) (F : FDef K mg "fullest" s_fullest) :
    Cal P w K mg base CX0 3 "fullest" ["places", "many"] (spF true RDoorF) := by
  refine Cal.ofR F sc_fullest (fun ds d ⟨p, m, e, _⟩ => by rw [e] <;> rfl) (fun _ _ _ _ _ _ us hl => match us, hl with | [_, _], _ => rfl) (fun f cdv A outer s H E hr vs ds d Q hv hR k => ?_)
  obtain ⟨n, m, rfl, n1, n60, m1, rfl⟩ := hR
  obtain ⟨v1, v2, rfl, a1, a2⟩ := hv.two
  cases a1.int_inv
  cases a2.int_inv
  refine ⟨_, (pss_cons (ps_expr (pe_cal c_asked_places (hr.mono (by decide)) rfl pass0 (pa_cons (pv 0) pa_nil)))
    (pss_cons (ps_expr (pe_cal c_asked_many (hr.mono (by decide)) rfl pass0 (pa_cons (pv 1) pa_nil)))
    (pss_cons (ps_set (i := 2) sc_fullest.nd rfl (Or.inl rfl) (pe_lst pa_nil))
    (pss_cons (ps_for PassesOwn.never rfl (pi_range1 rfl T.range (pa_cons (pv 0) pa_nil)) (pg_name (i := 3) sc_fullest.nd rfl (Or.inr rfl))
      (pss_one (ps_expr (pe_bm PySem.F.plainAttrs_list PySem.F.slot_list_extend PySem.F.type_list_extend mt_extend (pv 2) (pa_cons (pe_lc (own := [("other", 4)]) rfl sc_fullest.nd (pi_range2 rfl T.range (pa_cons (pe_op op_uAdd (pv 3) pe_int) (pa_cons (pv 0) pa_nil))) (blkOk_by (N := N_fullest) (sc := defScope s_fullest) (by decide +kernel)) (fun _ _ _ _ _ => (pg_name (i := 4) sc_fullest.nd rfl (Or.inl rfl))) (fun _ _ _ _ _ => (pts_one (pt_cmpR (op_neK (K := K) rfl (hu64 hr)) (pe_op op_mod (pe_op op_sub (pv 4) (pv 3)) (pv 1)) pe_int (nomark _)))) (fun _ _ _ _ _ => (pe_tup (pa_cons (pv 3) (pa_cons (pv 4) pa_nil))))) pa_nil)))))
    (pss_one (ps_ret (pv 2))))))), ?_⟩
  refine q_dropD (n := false) (d := .none) (d_call (da_cons (d_vI rfl) da_nil) (use_spF ⟨n, rfl, n1, n60, rfl⟩)) fun H1 e1 => ?_
  refine q_dropD (n := false) (d := .none) (d_call (da_cons (d_vI rfl) da_nil) (use_spF ⟨m, rfl, m1, rfl⟩)) fun H2 e2 => ?_
  refine ⟨Nat.zero_le _, fun fo hfo => ?_⟩
  have hfo0 : H fo = none := fresh_back (e1.trans e2) hfo
  refine q_forB (Hb := H2) (ds := rgD 0 n) (dwb_range1 (av_1 rfl) (by omega) (Ex.new hfo)) (fun i σ' H' => ∃ x3 x4 xs, σ' = [some (.int n), some (.int m), some (.ref fo), x3, x4] ∧ H' fo = some (.lst xs) ∧ xs.length ≤ 60 * i ∧ DtAll H' xs (pL (((rgI 0 n).take i).flatMap (fullRow n m)))) ⟨_, _, [], rfl, upd_same, Nat.le_refl _, .nil⟩ ?_ ?_
  · rintro i d x σ' H3 H4 hd e3 ⟨x3, x4, xs, rfl, hxs, hxl, hA⟩ e4 hx N hN
    obtain ⟨hi, rfl⟩ := rgI_at hd
    cases hx.int_inv
    have rl := fullRow_len n m (i : Int) (by omega)
    refine s_extD (ds := pL (fullRow n m i)) (e4 _ _ hxs) (vt_var rfl) (EvR.weak (n := true) (EvR.is (d_lcF (l := rgI (i + 1) n) (emb := PyData.int) (fun j => !decide ((j - (i : Int)) % m = 0)) (fun j => pD ((i : Int), j)) ?_ ?_ (fun _ _ _ => rfl) fun y hy v H5 e5 hv => ?_) ?_)) ?_ fun vs H5 e5 hvs => ?_
    · have q := dw_range2 (σ := [some (.int n), some (.int m), some (.ref fo), some (.int i), x4]) (H := H4) (tas := tCons (tOp rUAdd (tVar 3) (tC (.int 1))) (tCons (tVar 0) tNil)) (i := (i : Int) + 1) (j := n) (da_cons (d_op (d_vI rfl) d_int rd_addI) (da_cons (d_vI rfl) da_nil)) (by omega) (by omega)
      rw [rgD_eq] at q
      exact q
    · unfold rgI
      rw [List.length_map, List.length_range]
      omega
    · cases hv.int_inv
      refine turn_name rfl (t_test ?_) fun _ => (d_tup (ds := [.int (i : Int), .int y]) (da_cons (d_vI rfl) (da_cons (d_vI rfl) da_nil)) (by show 2 ≤ 1000000; decide)).weak
      walk_at "d"
      · exact (by omega : 0 < m)
    · unfold fullRow pL
      rw [List.map_map]
      rfl
    · show xs.length + (pL (fullRow n m i)).length ≤ _
      unfold pL
      rw [List.length_map]
      omega
    · refine hN _ _ (Ex.mut ((e3.trans e4).trans e5) hfo) ⟨_, _, _, rfl, upd_same, ?_, ?_⟩
      · rw [List.length_append, hvs.length]
        unfold pL
        rw [List.length_map]
        omega
      · rw [rgI_take hi, List.flatMap_append]
        have e : pL (((rgI 0 n).take i).flatMap (fullRow n m) ++ [(i : Int)].flatMap (fullRow n m)) = pL (((rgI 0 n).take i).flatMap (fullRow n m)) ++ pL (fullRow n m i) := by
          unfold pL
          rw [List.map_append, List.flatMap_singleton]
        rw [e]
        exact (DtAll.append ((hA.ex e4).ex e5) hvs).updF (e5 _ _ (e4 _ _ hxs)) (by rw [← e]; exact flat_pL _)
  · rintro σ' H3 e3 ⟨x3, x4, xs, rfl, hxs, hxl, hA⟩
    rw [rgD_len, Int.sub_zero, List.take_of_length_le (Nat.le_of_eq rgI_len)] at hA
    exact ⟨_, rfl, k _ _ ((e1.trans e2).trans e3) (.lst hxs hA) fun _ => ⟨fo, rfl, hfo0⟩⟩
end
end SC

/-! PC: groups, what bars them, parted. -/
namespace SC
open PySem PySem.Spec PyProof.Rows L2 Evl
local macro_rules | `(tactic| walk_at "rd") => `(tactic| first
  | with_reducible exact rd_addI | with_reducible exact rd_i0 | with_reducible exact rd_b0
  | with_reducible exact rd_eqI | with_reducible exact rd_neI | with_reducible exact rd_eqL | with_reducible exact rd_neL | with_reducible exact rd_eqB | with_reducible exact rd_neB
  | with_reducible exact rd_eqP | with_reducible exact rd_neP | with_reducible exact rd_neQ
  | with_reducible exact rd_inI | with_reducible exact rd_notInI | with_reducible exact rd_inP | with_reducible exact rd_notInP
  | with_reducible refine rd_i ?_)
local macro_rules | `(tactic| walk_at "d") => `(tactic| repeat' first
  | with_reducible exact d_int | with_reducible exact d_bl | with_reducible exact d_non | with_reducible exact d_str
  | ((with_reducible apply d_vI); exact rfl) | ((with_reducible apply d_vB); exact rfl) | exact d_var rfl (by assumption)
  | with_reducible apply d_op | with_reducible exact da_nil | with_reducible apply da_cons | walk_at "rd" | with_reducible exact dp_none | with_reducible apply dp_some | with_reducible exact t_yes)

section
variable {P : Program} {w : World} {K : PySem.W.Frag} {mg : Str → Option Value} {base : Heap} {A : Ans}
theorem ok_groups_of (T : Bl mg) (c_near_of : Cal P w K mg base CX0 1 "near_of" ["places", "ties"] spNear) (F : FDef K mg "groups_of" s_groups_of) : Cal P w K mg base CX0 2 "groups_of" ["places", "ties"] (spF true RGroupsOf) := by
  refine Cal.ofR F sc_groups_of (fun ds d ⟨n, ps, e, _⟩ => by rw [e] <;> rfl) (fun _ _ _ _ _ _ us hl => match us, hl with | [_, _], _ => rfl) (fun f cdv A outer s H E hr vs ds d Q hv hR k => ?_)
  obtain ⟨n, ps, rfl, n1, n60, hW, rfl⟩ := hR
  obtain ⟨v1, v2, rfl, a1, a2⟩ := hv.two
  cases a1.int_inv
  have hpl : ps.length ≤ 100000 := by have := hW.len60 n60; omega
  refine ⟨_, (pss_cons (ps_set (i := 2) sc_groups_of.nd rfl (Or.inr rfl) (pe_cal c_near_of (hr.mono (by decide)) rfl pass0 (pa_cons (pv 0) (pa_cons (pv 1) pa_nil))))
    (pss_cons (ps_set (i := 3) sc_groups_of.nd rfl (Or.inl rfl) (pe_lst pa_nil))
    (pss_cons (ps_for PassesOwn.never rfl (pi_range1 rfl T.range (pa_cons (pv 0) pa_nil)) (pg_name (i := 4) sc_groups_of.nd rfl (Or.inr rfl))
      (pss_one (ps_if (pt_not (pt_val (pe_callB (cr_anyK (K := K) rfl rfl) rfl T.any bo_any (pa_cons (pe_lc (own := [("group", 5)]) (tt := tYes) rfl sc_groups_of.nd (pi_listK (K := K) rfl (pv 3)) (blkOk_by (N := N_groups_of) (sc := defScope s_groups_of) (by decide +kernel)) (fun _ _ _ _ _ => (pg_name (i := 5) sc_groups_of.nd rfl (Or.inl rfl))) (fun _ _ _ _ _ => pts_nil) (fun _ _ _ _ _ => (pe_cmpR (op_inK (K := K) rfl (hu65 hr)) (pv 4) (pv 5) (by with_unfolding_all rfl)))) pa_nil))))
        (pss_one (ps_expr (pe_bm PySem.F.plainAttrs_list PySem.F.slot_list_append PySem.F.type_list_append mt_append (pv 3) (pa_cons (pe_lc (own := [("other", 6)]) rfl sc_groups_of.nd (pi_range2 rfl T.range (pa_cons (pv 4) (pa_cons (pv 0) pa_nil))) (blkOk_by (N := N_groups_of) (sc := defScope s_groups_of) (by decide +kernel)) (fun _ _ _ _ _ => (pg_name (i := 6) sc_groups_of.nd rfl (Or.inl rfl))) (fun _ _ _ _ _ => (pts_one (pt_cmpR (op_notInK (K := K) rfl (hu65 hr)) (pv 6) (pe_ix (ix_K (K := K) rfl) (pv 2) (pv 4) (fun _ _ => rfl)) (by with_unfolding_all rfl)))) (fun _ _ _ _ _ => (pv 6))) pa_nil))))
        pss_nil)))
    (pss_one (ps_ret (pv 3)))))), ?_⟩
  refine spNear_use (by omega) (by omega) hW.inWeb hpl (da_cons (d_vI rfl) (da_cons (d_var rfl a2) da_nil)) fun nv H1 e1 hn => ?_
  refine ⟨Nat.zero_le _, fun fo hfo => ?_⟩
  have hfo0 : H fo = none := fresh_back e1 hfo
  refine q_forB (Hb := H1) (ds := rgD 0 n) (dwb_range1 (av_1 rfl) (by omega) (Ex.new hfo)) (fun i σ' H' => ∃ x4, σ' = [some (.int n), some v2, some nv, some (.ref fo), x4, none, none] ∧ Gl H' fo (grpTo n ps ((rgI 0 n).take i))) ⟨_, rfl, ⟨[], upd_same, rfl, fun i p g h => nomatch h⟩⟩ ?_ ?_
  · rintro i d x σ' H2 H3 hd e2 ⟨x4, rfl, hG⟩ e3 hx N hN
    obtain ⟨hi, rfl⟩ := rgI_at hd
    cases hx.int_inv
    have e23 := e2.trans e3
    have hG3 := hG.exx e3
    have hll := grpTo_len n ps ((rgI 0 n).take i)
    rw [List.length_take] at hll
    refine s_when (b := !((grpTo n ps ((rgI 0 n).take i)).any fun g => decide ((i : Int) ∈ g))) (et_not (t_B (d_cb1 (d_lcM (l := grpTo n ps ((rgI 0 n).take i)) (emb := gD) (fun g => .bool (decide ((i : Int) ∈ g))) (dw_list (d_var rfl hG3.dt)) (by omega) (fun _ _ => rfl) fun g hg v H4 e4 hv => ?_) rc_anyM))) (fun hb H4 e4 => ?_) (fun hb H4 e4 => ?_)
    · exact turn_name rfl t_yes fun _ => d_op (d_vI rfl) (d_var rfl hv) rd_inI
    · have hG4 := hG3.exx e4
      obtain ⟨xs, hxs, hxl⟩ := hG4.at_
      refine s_appD (n := true) (d := gD (grpRow n ps i)) hxs (vt_var rfl) (EvR.is (d_lcF (l := rgI i n) (emb := PyData.int) (fun y => !nearF ps i y) PyData.int ?_ ?_ (fun _ _ _ => rfl) fun y hy v H5 e5 hv => ?_) rfl) (by omega) fun v H5 e5 hv fr => ?_
      · have q := dw_range2 (σ := [some (.int n), some v2, some nv, some (.ref fo), some (.int i), none, none]) (H := H4) (tas := tCons (tVar 4) (tCons (tVar 0) tNil)) (i := (i : Int)) (j := n) (da_cons (d_vI rfl) (da_cons (d_vI rfl) da_nil)) (by omega) (by omega)
        rw [rgD_eq] at q
        exact q
      · unfold rgI
        rw [List.length_map, List.length_range]
        omega
      · cases hv.int_inv
        exact turn_name rfl (t_test (d_notNear (d_vI rfl) rfl (hn.ex ((e23.trans e4).trans e5)) (d_vI rfl) (by omega) (by omega))) fun _ => d_vI rfl
      · obtain ⟨p, ep, hpn⟩ := fr rfl
        cases ep
        obtain ⟨p2, ys, ep2, hp2, hys⟩ := Dt.lst_inv (show Dt H5 (.ref p) (.list (iL (grpRow n ps i))) from hv)
        cases ep2
        cases hys.iL_inv
        refine hN _ _ (Ex.mut ((e23.trans e4).trans e5) hfo) ⟨_, rfl, ?_⟩
        rw [rgI_take hi, grpTo_snoc]
        have ea : grpStep n ps (grpTo n ps ((rgI 0 n).take i)) i = grpTo n ps ((rgI 0 n).take i) ++ [grpRow n ps i] := by
          refine if_neg fun z => ?_
          have hb' := not_true_inv hb
          rw [hb'] at z
          cases z
        rw [ea]
        exact (hG4.exx e5).app (e5 _ _ hxs) hp2 (ne_of_none hxs hpn).symm
    · refine hN _ _ (e23.trans e4) ⟨_, rfl, ?_⟩
      rw [rgI_take hi, grpTo_snoc]
      have ea : grpStep n ps (grpTo n ps ((rgI 0 n).take i)) i = grpTo n ps ((rgI 0 n).take i) := if_pos (not_false_inv hb)
      rw [ea]
      exact hG3.exx e4
  · rintro σ' H2 e2 ⟨x4, rfl, hG⟩
    rw [rgD_len, Int.sub_zero, List.take_of_length_le (Nat.le_of_eq rgI_len)] at hG
    exact ⟨_, rfl, k _ _ (e1.trans e2) hG.dt fun _ => ⟨fo, rfl, hfo0⟩⟩
theorem ok_bar_of (T : Bl mg) (c_near_of : Cal P w K mg base CX0 1 "near_of" ["places", "ties"] spNear) (F : FDef K mg "bar_of" s_bar_of) : Cal P w K mg base CX0 2 "bar_of" ["places", "ties"] (spF false RBarOf) := by
  refine Cal.ofR F sc_bar_of (fun ds d ⟨n, ps, e, _⟩ => by rw [e] <;> rfl) (fun _ _ _ _ _ _ us hl => match us, hl with | [_, _], _ => rfl) (fun f cdv A outer s H E hr vs ds d Q hv hR k => ?_)
  obtain ⟨n, ps, rfl, n1, n60, hW, rfl⟩ := hR
  obtain ⟨v1, v2, rfl, a1, a2⟩ := hv.two
  cases a1.int_inv
  have hpl : ps.length ≤ 100000 := by have := hW.len60 n60; omega
  refine ⟨_, (pss_cons (ps_set (i := 2) sc_bar_of.nd rfl (Or.inl rfl) (pe_cal c_near_of (hr.mono (by decide)) rfl pass0 (pa_cons (pv 0) (pa_cons (pv 1) pa_nil))))
    (pss_cons (ps_for PassesOwn.never rfl (pi_listK (K := K) rfl (pv 1)) (pg_tupK (K := K) (n := 2) rfl rfl (pgs_cons (pg_name (i := 3) sc_bar_of.nd rfl (Or.inl rfl)) (pgs_cons (pg_name (i := 4) sc_bar_of.nd rfl (Or.inl rfl)) pgs_nil)))
      (pss_one (ps_for PassesOwn.never rfl (pi_range1 rfl T.range (pa_cons (pv 0) pa_nil)) (pg_name (i := 5) sc_bar_of.nd rfl (Or.inl rfl))
        (pss_one (ps_if (PW.pt (pw_and (pt_cmpR (op_notInK (K := K) rfl (hu65 hr)) (pv 5) (pe_tup (pa_cons (pv 3) (pa_cons (pv 4) pa_nil))) (by with_unfolding_all rfl)) (pw_and (pt_cmpR (op_notInK (K := K) rfl (hu65 hr)) (pv 5) (pe_ix (ix_K (K := K) rfl) (pv 2) (pv 3) (fun _ _ => rfl)) (by with_unfolding_all rfl)) (pw_and1 (pt_cmpR (op_notInK (K := K) rfl (hu65 hr)) (pv 5) (pe_ix (ix_K (K := K) rfl) (pv 2) (pv 4) (fun _ _ => rfl)) (by with_unfolding_all rfl))))))
          (pss_one (ps_ret (pe_tup (pa_cons (pv 3) (pa_cons (pv 4) (pa_cons (pv 5) pa_nil))))))
          pss_nil)))))
    (pss_one (ps_ret pe_non)))), ?_⟩
  refine spNear_use (by omega) (by omega) hW.inWeb hpl (da_cons (d_vI rfl) (da_cons (d_var rfl a2) da_nil)) fun nv H1 e1 hn => ?_
  refine q_forA (ds := pL ps) (dw_list (d_var rfl (a2.ex e1))) (fun i σ' H' => (∃ x3 x4 x5, σ' = [some (.int n), some v2, some nv, x3, x4, x5]) ∧ (ps.take i).findSome? (barR n ps) = none) (fun H2 e2 => ⟨⟨_, _, _, rfl⟩, rfl⟩) ?_ (fun _ _ _ _ _ p => p) ?_
  · rintro i d x σ' H2 hd e2 hx ⟨⟨x3, x4, x5, rfl⟩, hno⟩ N hN
    obtain ⟨p, hp, rfl⟩ := map_at hd
    have htie := hW.tie p (List.mem_of_getElem? hp)
    refine g_pair (show Dt H2 x (.tuple [.int p.1, .int p.2]) from hx) fun u1 u2 q1 q2 => ?_
    cases q1.int_inv
    cases q2.int_inv
    refine s_forA (ds := rgD 0 n) (dw_range1 (da_cons (d_vI rfl) da_nil) (by omega)) (fun j σ' H' => (∃ x5, σ' = [some (.int n), some v2, some nv, some (.int p.1), some (.int p.2), x5]) ∧ ((rgI 0 n).take j).find? (barT n ps p) = none) (fun H3 e3 => ⟨⟨_, rfl⟩, rfl⟩) ?_ (fun _ _ _ _ _ p => p) ?_
    · rintro j d x σ' H3 hd e3 hx ⟨⟨x5', rfl⟩, hno2⟩ N2 hN2
      obtain ⟨hj, rfl⟩ := rgI_at hd
      cases hx.int_inv
      have hn3 := hn.ex (e2.trans e3)
      refine s_when (b := barT n ps p j) (et_and (t_test (d_op (d_vI rfl) (d_tup (ds := [.int p.1, .int p.2]) (da_cons (d_vI rfl) (da_cons (d_vI rfl) da_nil)) (by show 2 ≤ 1000000; decide)).weak rd_notIn2)) fun _ => et_and (t_test (d_notNear (d_vI rfl) rfl hn3 (d_vI rfl) (by omega) (by omega))) fun _ => t_test (d_notNear (d_vI rfl) rfl hn3 (d_vI rfl) (by omega) (by omega))) (fun hb H4 e4 => ?_) (fun hb H4 e4 => ?_)
      · refine r_d (n := true) (d := .tuple [.int p.1, .int p.2, .int (j : Int)]) (d_tup (da_cons (d_vI rfl) (da_cons (d_vI rfl) (da_cons (d_vI rfl) da_nil))) (by show 3 ≤ 1000000; decide)) fun v H5 e5 hd _ => k v H5 ((((e1.trans e2).trans e3).trans e4).trans e5) ?_ Fr.no
        have h1 : (rgI 0 n).find? (barT n ps p) = some (j : Int) := find_at (rgI_get hj) hno2 hb
        have h2 : barF n ps = some (p.1, p.2, (j : Int)) := findSome_at hp hno (by unfold barR; rw [h1]; rfl)
        rw [h2]
        exact hd
      · refine hN2 _ _ e4 ⟨⟨_, rfl⟩, ?_⟩
        rw [rgI_take hj, List.find?_append, hno2, List.find?_cons, hb]
        rfl
    · rintro σ' H3 e3 ⟨⟨x5', rfl⟩, hno2⟩
      rw [rgD_len, Int.sub_zero, List.take_of_length_le (Nat.le_of_eq rgI_len)] at hno2
      refine hN _ _ e3 ⟨⟨_, _, _, rfl⟩, ?_⟩
      rw [take_at hp, List.findSome?_append, hno]
      show ([p].findSome? (barR n ps)) = none
      rw [List.findSome?_cons]
      unfold barR
      rw [hno2]
      rfl
  · rintro σ' H2 e2 ⟨⟨x3, x4, x5, rfl⟩, hno⟩
    refine r_d (n := false) (d := .none) d_non fun v H3 e3 hd _ => k v H3 ((e1.trans e2).trans e3) ?_ Fr.no
    rw [show (pL ps).length = ps.length from List.length_map _, List.take_length] at hno
    have : barF n ps = none := hno
    rw [this]
    exact hd
theorem ok_parted (T : Bl mg) (i_Three : ICal P w K mg base CX0 1 "Three" A.Three ["self", "one", "other", "third"] (spThreeI A.Three)) (i_Parted : ICal P w K mg base CX0 1 "Parted" A.Parted ["self", "groups"] (spGroupsI A.Parted))
    (c_asked_web : Cal P w K mg base CX0 3 "asked_web" ["places", "ties"] (spF false RAskW)) (c_bar_of : Cal P w K mg base CX0 2 "bar_of" ["places", "ties"] (spF false RBarOf)) (c_groups_of : Cal P w K mg base CX0 2 "groups_of" ["places", "ties"] (spF true RGroupsOf))
    (F : FDef K mg "parted" s_parted) : Cal P w K mg base CX0 4 "parted" ["places", "ties"] (spDoorP A) := by
  refine Cal.of F sc_parted (fun vs H Q E ⟨n, ps, v, e, _⟩ => by rw [e] <;> rfl) (fun _ _ _ _ _ _ us hl => match us, hl with | [_, _], _ => rfl) (fun f cdv A' outer s H vs Q E hr h => ?_)
  obtain ⟨n, ps, vt, rfl, ht, n1, n60, hW, hl, k1, k2⟩ := h
  refine ⟨_, (pss_cons (ps_expr (pe_cal c_asked_web (hr.mono (by decide)) rfl pass0 (pa_cons (pv 0) (pa_cons (pv 1) pa_nil))))
    (pss_cons (ps_set (i := 2) sc_parted.nd rfl (Or.inl rfl) (pe_cal c_bar_of (hr.mono (by decide)) rfl pass0 (pa_cons (pv 0) (pa_cons (pv 1) pa_nil))))
    (pss_one (ps_ret (pe_ifExp (pt_cmpR op_notN (pv 2) pe_non (nomark _)) (pe_ical i_Three (hr.mono (by decide)) rfl pass0 (pa_cons (pe_ix (ix_K (K := K) rfl) (pv 2) pe_int (fun _ _ => rfl)) (pa_cons (pe_ix (ix_K (K := K) rfl) (pv 2) pe_int (fun _ _ => rfl)) (pa_cons (pe_ix (ix_K (K := K) rfl) (pv 2) pe_int (fun _ _ => rfl)) pa_nil)))) (pe_ical i_Parted (hr.mono (by decide)) rfl pass0 (pa_cons (pe_cal c_groups_of (hr.mono (by decide)) rfl pass0 (pa_cons (pv 0) (pa_cons (pv 1) pa_nil))) pa_nil))))))), ?_⟩
  refine q_dropD (n := false) (d := .none) (d_call (da_cons (d_vI rfl) (da_cons (d_var rfl ht) da_nil)) (use_spF ⟨n, ps, rfl, n1, n60, hW, hl, rfl⟩)) fun H1 e1 => ?_
  refine q_let (n := false) (d := barD (barF n ps)) (d_call (da_cons (d_vI rfl) (da_cons (d_var rfl (ht.ex e1)) da_nil)) (use_spF ⟨n, ps, rfl, n1, n60, hW, rfl⟩)) fun vb H2 e2 hb _ => ?_
  have ht2 := ht.ex (e1.trans e2)
  have lg := grpTo_len n ps (rgI 0 n)
  rw [rgI_len] at lg
  cases hz : barF n ps with
  | none =>
    rw [hz] at hb
    cases hb
    refine t_notN rfl H2 (Ex.refl H2) _ fun H3 e3 => ?_
    rw [if_neg (by decide)]
    exact mk_groups (gs := groupsF n ps) (da_cons (d_call (da_cons (d_vI rfl) (da_cons (d_var rfl ht2) da_nil)) (use_spF ⟨n, ps, rfl, n1, n60, hW, rfl⟩)).weak da_nil) (by show (grpTo n ps (rgI 0 n)).length ≤ 1000; omega) e3 fun x dx p qs H' e' nx hx G =>
      k2 x dx p qs H' hz ((e1.trans e2).trans (e3.trans e')) (fresh_back ((e1.trans e2).trans e3) nx) hx (G.back ((e1.trans e2).trans e3))
  | some z =>
    obtain ⟨a, b, c⟩ := z
    rw [hz] at hb
    have hb : Dt H2 vb (.tuple [.int a, .int b, .int c]) := hb
    obtain ⟨l, xs, rfl, hl2, hxs⟩ := hb.tup_inv
    have hbt : Dt H2 (.ref l) (.tuple [.int a, .int b, .int c]) := .tup hl2 hxs
    refine t_notN rfl H2 (Ex.refl H2) _ fun H3 e3 => ?_
    rw [if_pos (by rw [decide_eq_false fun z => nomatch z]; rfl)]
    exact mk_three (a := a) (b := b) (c := c) (da_cons (d_op (d_var rfl hbt) d_int (rd_uIxT (at_int (j := 0) rfl rfl))) (da_cons (d_op (d_var rfl hbt) d_int (rd_uIxT (at_int (j := 1) rfl rfl))) (da_cons (d_op (d_var rfl hbt) d_int (rd_uIxT (at_int (j := 2) rfl rfl))) da_nil))) e3 fun x dx H' e' nx hx =>
      k1 a b c x dx H' hz ((e1.trans e2).trans (e3.trans e')) (fresh_back ((e1.trans e2).trans e3) nx) hx
end
end SC

/-! PG: crowd_of, told. -/
namespace SC
open PySem PySem.Spec PyProof.Rows L2 Evl
local macro_rules | `(tactic| walk_at "rd") => `(tactic| first
  | with_reducible exact rd_addI | with_reducible exact rd_i0 | with_reducible exact rd_b0
  | with_reducible exact rd_eqI | with_reducible exact rd_neI | with_reducible exact rd_eqL | with_reducible exact rd_neL | with_reducible exact rd_eqB | with_reducible exact rd_neB
  | with_reducible exact rd_eqP | with_reducible exact rd_neP | with_reducible exact rd_neQ
  | with_reducible exact rd_inI | with_reducible exact rd_notInI | with_reducible exact rd_inP | with_reducible exact rd_notInP
  | with_reducible refine rd_i ?_)
local macro_rules | `(tactic| walk_at "d") => `(tactic| repeat' first
  | with_reducible exact d_int | with_reducible exact d_bl | with_reducible exact d_non | with_reducible exact d_str
  | ((with_reducible apply d_vI); exact rfl) | ((with_reducible apply d_vB); exact rfl) | exact d_var rfl (by assumption)
  | with_reducible apply d_op | with_reducible exact da_nil | with_reducible apply da_cons | walk_at "rd" | with_reducible exact dp_none | with_reducible apply dp_some | with_reducible exact t_yes)

section
variable {P : Program} {w : World} {K : PySem.W.Frag} {mg : Str → Option Value} {base : Heap} {A : Ans}
theorem ok_crowd_of (T : Bl mg) (c_near_of : Cal P w K mg base CX0 1 "near_of" ["places", "ties"] spNear) (F : FDef K mg "crowd_of" s_crowd_of) : Cal P w K mg base CX0 2 "crowd_of" ["places", "ties"] (spF true RCrowdOf) := by
  refine Cal.ofR F sc_crowd_of (fun ds d ⟨n, ps, e, _⟩ => by rw [e] <;> rfl) (fun _ _ _ _ _ _ us hl => match us, hl with | [_, _], _ => rfl) (fun f cdv A outer s H E hr vs ds d Q hv hR k => ?_)
  obtain ⟨n, ps, rfl, n1, n60, hW, rfl⟩ := hR
  obtain ⟨v1, v2, rfl, a1, a2⟩ := hv.two
  cases a1.int_inv
  have hpl : ps.length ≤ 100000 := by have := hW.len60 n60; omega
  refine ⟨_, (pss_cons (ps_set (i := 2) sc_crowd_of.nd rfl (Or.inr rfl) (pe_cal c_near_of (hr.mono (by decide)) rfl pass0 (pa_cons (pv 0) (pa_cons (pv 1) pa_nil))))
    (pss_cons (ps_set (i := 3) sc_crowd_of.nd rfl (Or.inr rfl) (pe_listRg rfl rfl T.list (prg_1 rfl T.range (pv 0))))
    (pss_cons (ps_set (i := 4) sc_crowd_of.nd rfl (Or.inl rfl) (pe_lst pa_nil))
    (pss_cons (ps_while PassesOwn.never (pt_cmpR (op_neK (K := K) rfl (hu64 hr)) (pv 3) (pe_lst pa_nil) (nomark _))
      (pss_cons (ps_setLc (i := 5) (own := [("place", 7)]) (tt := tYes) rfl sc_crowd_of.nd rfl rfl (sw_true rfl rfl rfl (by decide +kernel)) (pi_listK (K := K) rfl (pv 3)) (blkOk_by (N := N_crowd_of) (sc := defScope s_crowd_of) (by decide +kernel)) (fun _ _ _ _ _ => (pg_name (i := 7) sc_crowd_of.nd rfl (Or.inr rfl))) (fun _ _ _ _ _ => pts_nil) (fun _ _ _ _ _ => (pe_callB (call_lenK (K := K) (w := w) rfl rfl) rfl T.len bo_len (pa_cons (pe_lc (own := [("other", 6)]) rfl sc_crowd_of.nd (pi_listK (K := K) rfl (pv 3)) (blkOk_by (N := N_crowd_of) (sc := _) (by exact rfl)) (fun _ _ _ _ _ => (pg_name (i := 6) sc_crowd_of.nd rfl (Or.inl rfl))) (fun _ _ _ _ _ => (pts_one (pt_cmpR (op_inK (K := K) rfl (hu65 hr)) (pv 6) (pe_ix (ix_K (K := K) rfl) (pv 2) (pv 7) (fun _ _ => rfl)) (by with_unfolding_all rfl)))) (fun _ _ _ _ _ => (pv 6))) pa_nil))))
      (pss_cons (ps_set (i := 8) sc_crowd_of.nd rfl (Or.inr rfl) (pe_ix (ix_K (K := K) rfl) (pv 3) (pe_bm PySem.F.plainAttrs_list PySem.F.slot_list_index PySem.F.type_list_index mt_index (pv 5) (pa_cons (pe_callB (cr_maxK (K := K) rfl rfl) rfl T.max bo_max (pa_cons (pv 5) pa_nil)) pa_nil)) (fun _ _ => rfl)))
      (pss_cons (ps_expr (pe_bm PySem.F.plainAttrs_list PySem.F.slot_list_append PySem.F.type_list_append mt_append (pv 4) (pa_cons (pv 8) pa_nil)))
      (pss_one (ps_set (i := 3) sc_crowd_of.nd rfl (Or.inr rfl) (pe_lc (own := [("place", 7)]) rfl sc_crowd_of.nd (pi_listK (K := K) rfl (pv 3)) (blkOk_by (N := N_crowd_of) (sc := defScope s_crowd_of) (by decide +kernel)) (fun _ _ _ _ _ => (pg_name (i := 7) sc_crowd_of.nd rfl (Or.inl rfl))) (fun _ _ _ _ _ => (pts_one (pt_cmpR (op_inK (K := K) rfl (hu65 hr)) (pv 7) (pe_ix (ix_K (K := K) rfl) (pv 2) (pv 8) (fun _ _ => rfl)) (by with_unfolding_all rfl)))) (fun _ _ _ _ _ => (pv 7)))))))))
    (pss_one (ps_ret (pv 4))))))), ?_⟩
  refine spNear_use (by omega) (by omega) hW.inWeb hpl (da_cons (d_vI rfl) (da_cons (d_var rfl a2) da_nil)) fun nv H1 e1 hn => ?_
  refine q_let (n := true) (d := .list (iL (rgI 0 n))) (d_listRg (rg_1 (by walk_at "d")) (by omega) (by omega)) fun vl H2 e2 hl2 _ => ?_
  refine ⟨Nat.zero_le _, fun fo hfo => ?_⟩
  have hfo0 : H fo = none := fresh_back (e1.trans e2) hfo
  obtain ⟨la, ys, rfl, hla, hys⟩ := hl2.lst_inv
  cases hys.iL_inv
  refine q_while (fun m σ' H' => ∃ la x5 x8 left found, σ' = [some (.int n), some v2, some nv, some (.ref la), some (.ref fo), x5, none, none, x8] ∧ Ex H2 H' ∧ H' la = some (.lst (left.map V.int)) ∧ la ≠ fo ∧ H' fo = some (.lst (found.map V.int)) ∧ found.length + left.length ≤ 60 ∧ (∀ x ∈ left, 0 ≤ x ∧ x < n) ∧ left.length ≤ m ∧ crowdF n ps = found ++ crowdGo ps m left) ⟨n.toNat, la, _, _, rgI 0 n, [], rfl, Ex.new hfo, by rw [upd_ne (ne_of_none hla hfo)]; exact hla, ne_of_none hla hfo, upd_same, by rw [rgI_len]; show 0 + _ ≤ 60; omega, fun x hx => rgI_mem.mp hx, by rw [rgI_len]; exact Nat.le_refl _, rfl⟩ ?_
  rintro m σ' H3 ⟨la, x5, x8, left, found, rfl, e3, hla, hne, hfl, hlen, hin, hm, hcr⟩
  have hl : Dt H3 (.ref la) (.list (iL left)) := .lst hla (DtAll.iL_mk left)
  refine ⟨!decide (left = []), t_test (d_op (d_var rfl hl) (d_lst (ds := iL []) da_nil (by decide)).weak rd_neL), fun hb H4 e4 N hN => ?_, fun hb H4 e4 => ?_⟩
  · have hne2 : left ≠ [] := of_decide_eq_false (not_true_inv hb)
    have ll : left.length ≤ 60 := by omega
    have hl4 := hl.ex e4
    have hn4 := hn.ex ((e2.trans e3).trans e4)
    refine q_let (n := true) (d := .list (iL (left.map (cntF ps left)))) (EvR.is (d_lcM (l := left) (emb := PyData.int) (fun x => .int (cntF ps left x)) (dw_list (d_var rfl hl4)) (by omega) (fun _ _ => rfl) fun x hx v H5 e5 hv => ?_) (congrArg PyData.list (iL_map _ _))) fun vc H5 e5 hc _ => ?_
    · cases hv.int_inv
      have hx0 := hin x hx
      refine turn_name rfl t_yes fun _ => EvR.is (d_cb1 (d_lcF (l := left) (emb := PyData.int) (fun y => nearF ps x y) PyData.int (dw_list (d_var rfl (hl4.ex e5))) (by omega) (fun _ _ _ => rfl) fun y hy v H6 e6 hv => ?_) rc_lenL) (by rw [List.length_map]; rfl)
      cases hv.int_inv
      exact turn_name rfl (t_test (d_near (d_vI rfl) rfl (hn4.ex (e5.trans e6)) (d_vI rfl) hx0.1 (by omega))) fun _ => d_vI rfl
    have hcn : left.map (cntF ps left) ≠ [] := by simpa using hne2
    obtain ⟨mx1, mx2⟩ := mxL_ok hcn
    have ix := bestF_ix (ps := ps) hne2
    have bm := bestF_mem (ps := ps) hne2
    refine q_letI (k := bestF ps left) (d_op (d_var rfl (hl4.ex e5)) (d_index (d_var rfl hc) (d_cb1 (d_var rfl hc) (rc_max mx1 mx2)) mx1) (rd_uIxL (at_int rfl (by unfold iL bestF; rw [List.getElem?_map, List.getElem?_eq_getElem ix, List.getD_eq_getElem?_getD, List.getElem?_eq_getElem ix]; rfl)))) fun H6 e6 => ?_
    have hla6 : H6 la = some (.lst (left.map V.int)) := e6 _ _ (e5 _ _ (e4 _ _ hla))
    have hfl6 : H6 fo = some (.lst (found.map V.int)) := e6 _ _ (e5 _ _ (e4 _ _ hfl))
    refine q_appD (n := false) (d := .int (bestF ps left)) hfl6 (vt_var rfl) (d_vI rfl) (by rw [List.length_map]; omega) fun v H7 e7 hv _ => ?_
    cases hv.int_inv
    have e27 : Ex H2 (upd H7 fo (.lst (found.map V.int ++ [V.int (bestF ps left)]))) := Ex.mut ((((e3.trans e4).trans e5).trans e6).trans e7) hfo
    have hla8 : (upd H7 fo (.lst (found.map V.int ++ [V.int (bestF ps left)]))) la = some (.lst (left.map V.int)) := by rw [upd_ne hne]; exact e7 _ _ hla6
    have hfl8 : (upd H7 fo (.lst (found.map V.int ++ [V.int (bestF ps left)]))) fo = some (.lst ((found ++ [bestF ps left]).map V.int)) := by rw [upd_same, List.map_append]; rfl
    generalize upd H7 fo (.lst (found.map V.int ++ [V.int (bestF ps left)])) = H8 at e27 hla8 hfl8
    have hl8 : Dt H8 (.ref la) (.list (iL left)) := .lst hla8 (DtAll.iL_mk left)
    have hn8 := hn.ex (e2.trans e27)
    have b0 := hin _ bm
    have less := left_less hW hne2
    refine s_let (n := true) (d := .list (iL (left.filter fun y => nearF ps (bestF ps left) y))) (EvR.is (d_lcF (l := left) (emb := PyData.int) (fun y => nearF ps (bestF ps left) y) PyData.int (dw_list (d_var rfl hl8)) (by omega) (fun _ _ _ => rfl) fun y hy v H9 e9 hv => ?_) rfl) fun v9 H9 e9 h9 fr => ?_
    · cases hv.int_inv
      exact turn_name rfl (t_test (d_near (d_vI rfl) rfl (hn8.ex e9) (d_vI rfl) b0.1 (by omega))) fun _ => d_vI rfl
    obtain ⟨lb, rfl, hbn⟩ := fr rfl
    obtain ⟨lb2, zs, eq, hlb, hzs⟩ := h9.lst_inv
    cases eq
    cases hzs.iL_inv
    obtain ⟨m1, rfl⟩ : ∃ m1, m = m1 + 1 := ⟨m - 1, by omega⟩
    refine hN _ _ ⟨m1, Nat.lt_succ_self _, lb, _, _, left.filter fun y => nearF ps (bestF ps left) y, found ++ [bestF ps left], rfl, e27.trans e9, hlb, (ne_of_none hfl8 hbn).symm, e9 _ _ hfl8, ?_, fun x hx => hin x (List.mem_filter.mp hx).1, by omega, ?_⟩
    · rw [List.length_append]
      show found.length + 1 + _ ≤ 60
      omega
    · rw [hcr, List.append_assoc]
      congr 1
      show (if left = [] then [] else bestF ps left :: crowdGo ps m1 (left.filter fun y => nearF ps (bestF ps left) y)) = _
      rw [if_neg hne2]
      rfl
  · have he2 : left = [] := of_decide_eq_true (not_false_inv hb)
    subst he2
    rw [crowdGo_nil, List.append_nil] at hcr
    refine ⟨_, rfl, k _ _ (((e1.trans e2).trans e3).trans e4) ?_ fun _ => ⟨fo, rfl, hfo0⟩⟩
    rw [hcr]
    exact .lst (e4 _ _ hfl) (DtAll.iL_mk found)
theorem ok_told (T : Bl mg) (i_Spare : ICal P w K mg base CX0 1 "Spare" A.Spare ["self", "ties"] (spSpareI A.Spare)) (i_Crowd : ICal P w K mg base CX0 1 "Crowd" A.Crowd ["self", "some"] (spCrowdI A.Crowd)) (i_Full : ICal P w K mg base CX0 1 "Full" A.Full ["self", "groups"] (spGroupsI A.Full))
    (c_asked_web : Cal P w K mg base CX0 3 "asked_web" ["places", "ties"] (spF false RAskW)) (c_asked_many : Cal P w K mg base CX0 2 "asked_many" ["many"] (spF false RAskM)) (c_most_ties : Cal P w K mg base CX0 1 "most_ties" ["places", "many"] (spF false RMost))
    (c_crowd_of : Cal P w K mg base CX0 2 "crowd_of" ["places", "ties"] (spF true RCrowdOf)) (c_groups_of : Cal P w K mg base CX0 2 "groups_of" ["places", "ties"] (spF true RGroupsOf)) (F : FDef K mg "told" s_told) : Cal P w K mg base CX0 4 "told" ["places", "ties", "many"] (spDoorT A) := by
  refine Cal.of F sc_told (fun vs H Q E ⟨n, m, ps, v, e, _⟩ => by rw [e] <;> rfl) (fun _ _ _ _ _ _ us hl => match us, hl with | [_, _, _], _ => rfl) (fun f cdv A' outer s H vs Q E hr h => ?_)
  obtain ⟨n, m, ps, vt, rfl, ht, n1, n60, m1, zm, hW, hl, k1, k2, k3⟩ := h
  have lps : (pL ps).length = ps.length := List.length_map _
  have zn : Sz 400 n := (show Sz 20 n from Sz.of (by omega)).mono (by decide)
  refine ⟨_, (pss_cons (ps_expr (pe_cal c_asked_web (hr.mono (by decide)) rfl pass0 (pa_cons (pv 0) (pa_cons (pv 1) pa_nil))))
    (pss_cons (ps_expr (pe_cal c_asked_many (hr.mono (by decide)) rfl pass0 (pa_cons (pv 2) pa_nil)))
    (pss_cons (ps_set (i := 3) sc_told.nd rfl (Or.inl rfl) (pe_op op_sub (pe_cal c_most_ties (hr.mono (by decide)) rfl pass0 (pa_cons (pv 0) (pa_cons (pv 2) pa_nil))) (pe_callB (call_lenK (K := K) (w := w) rfl rfl) rfl T.len bo_len (pa_cons (pv 1) pa_nil))))
    (pss_cons (ps_if (pt_cmpR op_gt (pv 3) pe_int (nomark _))
      (pss_one (ps_ret (pe_ical i_Spare (hr.mono (by decide)) rfl pass0 (pa_cons (pv 3) pa_nil))))
      pss_nil)
    (pss_cons (ps_set (i := 4) sc_told.nd rfl (Or.inl rfl) (pe_cal c_crowd_of (hr.mono (by decide)) rfl pass0 (pa_cons (pv 0) (pa_cons (pv 1) pa_nil))))
    (pss_cons (ps_if (pt_cmpR op_gt (pe_callB (call_lenK (K := K) (w := w) rfl rfl) rfl T.len bo_len (pa_cons (pv 4) pa_nil)) (pv 2) (nomark _))
      (pss_one (ps_ret (pe_ical i_Crowd (hr.mono (by decide)) rfl pass0 (pa_cons (pe_callB (cr_sortedK (K := K) (w := w) rfl rfl rfl) rfl T.sorted bo_sorted (pa_cons (pe_slice (sl_K (K := K) rfl) (pv 4) po_none (po_some (pe_op op_uAdd (pv 2) pe_int))) pa_nil)) pa_nil))))
      pss_nil)
    (pss_one (ps_ret (pe_ical i_Full (hr.mono (by decide)) rfl pass0 (pa_cons (pe_cal c_groups_of (hr.mono (by decide)) rfl pass0 (pa_cons (pv 0) (pa_cons (pv 1) pa_nil))) pa_nil)))))))))), ?_⟩
  refine q_dropD (n := false) (d := .none) (d_call (da_cons (d_vI rfl) (da_cons (d_var rfl ht) da_nil)) (use_spF ⟨n, ps, rfl, n1, n60, hW, hl, rfl⟩)) fun H1 e1 => ?_
  refine q_dropD (n := false) (d := .none) (d_call (da_cons (d_vI rfl) da_nil) (use_spF ⟨m, rfl, m1, rfl⟩)) fun H2 e2 => ?_
  have ht2 := ht.ex (e1.trans e2)
  refine q_letI (k := mostT n m - (ps.length : Int)) (d_op (d_call (da_cons (d_vI rfl) (da_cons (d_vI rfl) da_nil)) (use_spF ⟨n, m, rfl, zn, zm, m1, rfl⟩)) ((d_cb1 (d_var rfl ht2) rc_lenL).is (by rw [lps])) rd_i0) fun H3 e3 => ?_
  have ht3 := ht2.ex e3
  have e03 := (e1.trans e2).trans e3
  refine q_when (b := decide (0 < mostT n m - (ps.length : Int))) (t_test (d_op (d_vI rfl) d_int rd_b0)) (fun hb H4 e4 => ?_) fun hb H4 e4 => ?_
  · exact mk_spare (da_cons (d_vI rfl) da_nil) (Ex.refl H4) fun x dx H5 e5 nx hx => k1 x dx H5 (of_decide_eq_true hb) (e03.trans (e4.trans e5)) (fresh_back (e03.trans e4) nx) hx
  have hno : ¬ 0 < mostT n m - (ps.length : Int) := of_decide_eq_false hb
  have ht4 := ht3.ex e4
  have e04 := e03.trans e4
  refine q_let (n := true) (d := .list (iL (crowdF n ps))) (d_call (da_cons (d_vI rfl) (da_cons (d_var rfl ht4) da_nil)) (use_spF ⟨n, ps, rfl, n1, n60, hW, rfl⟩)) fun vc H5 e5 hc _ => ?_
  have ht5 := ht4.ex e5
  have lc : (iL (crowdF n ps)).length = (crowdF n ps).length := List.length_map _
  refine q_when (b := decide (m < ((crowdF n ps).length : Int))) (t_test (d_op ((d_cb1 (d_var rfl hc) rc_lenL).is (by rw [lc])) (d_vI rfl) rd_b0)) (fun hb2 H6 e6 => ?_) fun hb2 H6 e6 => ?_
  · have em : m + 1 = ((m.toNat + 1 : Nat) : Int) := by omega
    refine mk_crowd (xs := srt ((crowdF n ps).take (m.toNat + 1))) (da_cons (d_cb1 (EvR.is (d_slice (ds := iL (crowdF n ps)) (lo := none) (hi := some ((m.toNat + 1 : Nat) : Int)) (d_var rfl (hc.ex e6)) dp_none (dp_some (by rw [← em]; exact d_op (d_vI rfl) d_int rd_addI))) (congrArg PyData.list (cut_to (m.toNat + 1)))) rc_sortedI).weak da_nil) (Ex.refl H6) fun x dx p H7 e7 nx np hx hp => ?_
    exact k2 x dx p H7 hno (of_decide_eq_true hb2) ((e04.trans e5).trans (e6.trans e7)) (fresh_back ((e04.trans e5).trans e6) nx) (fresh_back ((e04.trans e5).trans e6) np) hx hp
  · have lg := grpTo_len n ps (rgI 0 n)
    rw [rgI_len] at lg
    refine mk_groups (gs := groupsF n ps) (da_cons (d_call (da_cons (d_vI rfl) (da_cons (d_var rfl (ht5.ex e6)) da_nil)) (use_spF ⟨n, ps, rfl, n1, n60, hW, rfl⟩)).weak da_nil) (by show (grpTo n ps (rgI 0 n)).length ≤ 1000; omega) (Ex.refl H6) fun x dx p qs H7 e7 nx hx G => ?_
    exact k3 x dx p qs H7 hno (of_decide_eq_false hb2) ((e04.trans e5).trans (e6.trans e7)) (fresh_back ((e04.trans e5).trans e6) nx) hx (G.back ((e04.trans e5).trans e6))
end
end SC

/-! PX: law 5: the defs that raise. -/
namespace SC
open PySem PySem.Spec PyProof.Rows L2 Evl
local macro_rules | `(tactic| walk_at "rd") => `(tactic| first
  | with_reducible exact rd_addI | with_reducible exact rd_i0 | with_reducible exact rd_b0
  | with_reducible exact rd_eqI | with_reducible exact rd_neI | with_reducible exact rd_eqL | with_reducible exact rd_neL | with_reducible exact rd_eqB | with_reducible exact rd_neB
  | with_reducible exact rd_eqP | with_reducible exact rd_neP | with_reducible exact rd_neQ
  | with_reducible exact rd_inI | with_reducible exact rd_notInI | with_reducible exact rd_inP | with_reducible exact rd_notInP
  | with_reducible refine rd_i ?_)
local macro_rules | `(tactic| walk_at "d") => `(tactic| repeat' first
  | with_reducible exact d_int | with_reducible exact d_bl | with_reducible exact d_non | with_reducible exact d_str
  | ((with_reducible apply d_vI); exact rfl) | ((with_reducible apply d_vB); exact rfl) | exact d_var rfl (by assumption)
  | with_reducible apply d_op | with_reducible exact da_nil | with_reducible apply da_cons | walk_at "rd" | with_reducible exact dp_none | with_reducible apply dp_some | with_reducible exact t_yes)

theorem tup_or {H : Hp} {v : V} {x : PyData} (h : Dt H v x) : (kitB (tyD x) "tuple" = some false ∧ tie4 x = false) ∨ ∃ ds, x = .tuple ds := by
  cases h with
  | non => exact .inl ⟨by decide +kernel, rfl⟩
  | bl b => exact .inl ⟨(show kitB "bool" "tuple" = some false by decide +kernel), rfl⟩
  | int i => exact .inl ⟨(show kitB "int" "tuple" = some false by decide +kernel), rfl⟩
  | str z => exact .inl ⟨(show kitB "str" "tuple" = some false by decide +kernel), rfl⟩
  | lst h a => exact .inl ⟨(show kitB "list" "tuple" = some false by decide +kernel), rfl⟩
  | tup h a => exact .inr ⟨_, rfl⟩
theorem tie4_two {ds : List PyData} (h : ds.length ≠ 2) : tie4 (.tuple ds) = false := by
  match ds, h with
  | [], _ => rfl
  | [a], _ => cases a <;> rfl
  | [_, _], h => exact absurd rfl h
  | a :: b :: _ :: _, _ => cases a <;> cases b <;> rfl
theorem tie4_ints {d e : PyData} (h : ([d, e].all isI) = false) : tie4 (.tuple [d, e]) = false := by
  cases d <;> cases e <;> first | rfl | cases h
theorem ints_of {d e : PyData} (h : ([d, e].all isI) = true) : ∃ a b : Int, d = .int a ∧ e = .int b := by
  cases d <;> cases e <;> first | exact ⟨_, _, rfl, rfl⟩ | cases h
section
variable {P : Program} {w : World} {K : PySem.W.Frag} {mg : Str → Option Value} {base : Heap} {CP CT CM : Addr}
theorem ok_is_number5 (T : Bl mg) (F : FDef K mg "is_number" s_is_number) : Cal P w K mg base CX0 1 "is_number" ["thing"] spNum := by
  refine Cal.of F sc_is_number (fun vs H Q E ⟨v, e, _⟩ => by rw [e] <;> rfl) (fun _ _ _ _ _ _ us hl => match us, hl with | [_], _ => rfl) (fun f cdv A outer s H vs Q E hr h => ?_)
  obtain ⟨v, rfl, h⟩ := h
  refine ⟨_, (pss_one (ps_ret (pe_and (pe_callB (call_isiK1 (K := K) rfl) rfl T.isinstance bo_isinstance (pa_cons (pv 0) (pa_cons (pe_bltn (v := .ty "int") rfl T.int bo_int rfl) pa_nil))) (pe_one (pe_not (pe_callB (call_isiK1 (K := K) rfl) rfl T.isinstance bo_isinstance (pa_cons (pv 0) (pa_cons (pe_bltn (v := .ty "bool") rfl T.bool bo_bool rfl) pa_nil)))))))), ?_⟩
  rcases h with ⟨i, rfl, k⟩ | ⟨n, k⟩
  · exact r_d (n := false) (d := .bool true) (EvR.is (d_and (a := true) (b := true) (d_isi (d_vI rfl) (show kitB "int" "int" = some true by decide +kernel)) fun _ => EvR.is (d_not (a := false) (d_isi (d_vI rfl) (show kitB "int" "bool" = some false by decide +kernel))) rfl) rfl) k
  · exact r_d (n := false) (d_noN rfl n) k
theorem ok_is_tie5 (T : Bl mg) (c_is_number : Cal P w K mg base CX0 1 "is_number" ["thing"] spNum) (F : FDef K mg "is_tie" s_is_tie) : Cal P w K mg base CX0 2 "is_tie" ["thing", "places"] (spF false RTieD) := by
  refine Cal.ofR F sc_is_tie (fun ds d ⟨x, e, _⟩ => by rw [e] <;> rfl) (fun _ _ _ _ _ _ us hl => match us, hl with | [_, _], _ => rfl) (fun f cdv A outer s H E hr vs ds d Q hv hR k => ?_)
  obtain ⟨x, rfl, rfl⟩ := hR
  obtain ⟨v1, v2, rfl, a1, a2⟩ := hv.two
  cases a2.int_inv
  refine ⟨_, (pss_cons (ps_if (PW.pt (pw_or (pt_not (pt_val (pe_callB (call_isiK1 (K := K) rfl) rfl T.isinstance bo_isinstance (pa_cons (pv 0) (pa_cons (pe_bltn (v := .ty "tuple") rfl T.tuple bo_tuple rfl) pa_nil))))) (pw_or (pt_cmpR (op_neK (K := K) rfl (hu64 hr)) (pe_callB (call_lenK (K := K) (w := w) rfl rfl) rfl T.len bo_len (pa_cons (pv 0) pa_nil)) pe_int (nomark _)) (pw_or1 (pt_not (pt_val (pe_callB (cr_allK (K := K) rfl rfl) rfl T.all bo_all (pa_cons (pe_lc (own := [("one", 2)]) (tt := tYes) rfl sc_is_tie.nd (pi_tupK (K := K) rfl (pv 0)) (blkOk_by (N := N_is_tie) (sc := defScope s_is_tie) (by decide +kernel)) (fun _ _ _ _ _ => (pg_name (i := 2) sc_is_tie.nd rfl (Or.inl rfl))) (fun _ _ _ _ _ => pts_nil) (fun _ _ _ _ _ => (pe_cal c_is_number (hr.mono (by decide)) rfl pass0 (pa_cons (pv 2) pa_nil)))) pa_nil))))))))
      (pss_one (ps_ret pe_bl))
      pss_nil)
    (pss_one (ps_ret (pe_chain3 op_le op_lt op_lt pe_int (pe_ix (ix_K (K := K) rfl) (pv 0) pe_int (fun _ _ => rfl)) (pe_ix (ix_K (K := K) rfl) (pv 0) pe_int (fun _ _ => rfl)) (pv 1))))), ?_⟩
  rcases tup_or a1 with ⟨kt, e⟩ | ⟨ds, rfl⟩
  · refine q_when (b := !false || false) (et_or (et_not (t_B (d_isi (d_var rfl a1) kt))) fun h => nomatch h) (fun _ H1 e1 => ?_) fun h => nomatch h
    rw [e] at k
    exact r_d (n := false) (d := .bool false) d_bl (k.back e1)
  by_cases h2 : ds.length = 2
  · obtain ⟨d1, d2, rfl⟩ : ∃ d1 d2, ds = [d1, d2] := match ds, h2 with | [a, b], _ => ⟨a, b, rfl⟩
    refine q_when (b := !true || (!decide (((2 : Nat) : Int) = 2) || !([d1, d2].all isI))) (et_or (et_not (t_B (d_isi (d_var rfl a1) (show kitB "tuple" "tuple" = some true by decide +kernel)))) fun _ => et_or (t_test (d_op (EvR.is (d_cb1 (d_var rfl a1) rc_lenT) rfl) d_int rd_neI)) fun _ => et_not (t_B (d_cb1 (d_lcM (l := [d1, d2]) (emb := id) (fun d => .bool (isI d)) ?_ (by show 2 ≤ 1000000; decide) (fun _ _ => rfl) fun d hd v H1 e1 hv => ?_) rc_allM))) (fun hb H1 e1 => ?_) fun hb H1 e1 => ?_
    · rw [List.map_id]
      exact dw_tup (d_var rfl a1)
    · exact turn_name rfl t_yes fun _ => d_numD (d_var rfl hv)
    · have hi : [d1, d2].all isI = false := by
        cases q : [d1, d2].all isI with
        | false => rfl
        | true => rw [q] at hb; cases hb
      rw [tie4_ints hi] at k
      exact r_d (n := false) (d := .bool false) d_bl (k.back e1)
    · have hi : [d1, d2].all isI = true := by
        cases q : [d1, d2].all isI with
        | true => rfl
        | false => rw [q] at hb; cases hb
      obtain ⟨a, b, rfl, rfl⟩ := ints_of hi
      exact r_d (n := false) (d := .bool (decide (0 ≤ a) && (decide (a < b) && decide (b < 4)))) (d_chain3 d_int (d_op (d_var rfl (a1.ex e1)) d_int (rd_uIxT (at_int (j := 0) rfl rfl))) rd_b0 (fun _ => d_op (d_var rfl (a1.ex e1)) d_int (rd_uIxT (at_int (j := 1) rfl rfl))) (fun _ => rd_b0) (fun _ _ => d_vI rfl) fun _ _ => rd_b0) (k.back e1)
  · refine q_when (b := !true || (!decide (((ds.length : Nat) : Int) = 2) || false)) (et_or (et_not (t_B (d_isi (d_var rfl a1) (show kitB "tuple" "tuple" = some true by decide +kernel)))) fun _ => et_or (t_test (d_op (d_cb1 (d_var rfl a1) rc_lenT) d_int rd_neI)) fun hz => ?_) (fun _ H1 e1 => ?_) fun hb => ?_
    · have := of_decide_eq_true (not_false_inv hz)
      omega
    · rw [tie4_two h2] at k
      exact r_d (n := false) (d := .bool false) d_bl (k.back e1)
    · rw [decide_eq_false (by omega)] at hb
      cases hb
theorem x_asked_places (T : Bl mg) (e_BadPlaces : ExT K mg "BadPlaces" CP) (c_is_number : Cal P w K mg base CX0 1 "is_number" ["thing"] spNum) (gM : ∃ t, mg "MOST" = some (.int 60 t)) (F : FDef K mg "asked_places" s_asked_places) :
    Cal P w K mg base (L2.CX P w) 2 "asked_places" ["places"] (spX fun vs H C => ∃ v, vs = [v] ∧ BadP H v ∧ C = CP) := by
  obtain ⟨t, g_MOST⟩ := gM
  refine Cal.ofX F sc_asked_places (fun vs H C ⟨v, e, _⟩ => by rw [e] <;> rfl) (fun _ _ _ _ _ _ us hl => match us, hl with | [_], _ => rfl) (fun f cdv A outer s H vs C E hr h k => ?_)
  obtain ⟨v, rfl, hv, rfl⟩ := h
  refine ⟨_, (pss_one (ps_if (PW.pt (pw_or (pt_not (pt_val (pe_cal c_is_number (hr.mono (by decide)) rfl pass0 (pa_cons (pv 0) pa_nil)))) (pw_or1 (pt_not (pt_chain op_le op_le pe_int (pv 0) (pe_glob (v := .int 60) rfl g_MOST ⟨_, rfl⟩))))))
      (pss_one (ps_raiseX e_BadPlaces rfl (takes_of rfl rfl rfl rfl) rfl))
      pss_nil)), fun D => ?_⟩
  rcases hv with n | ⟨i, rfl, hi⟩
  · exact s_when (b := !false || false) (et_or (et_not (t_B (d_numN rfl n))) fun h => nomatch h) (fun _ H1 e1 => k H1 e1) fun h => nomatch h
  · refine s_when (b := !true || !(decide (1 ≤ i) && decide (i ≤ 60))) (et_or (et_not (t_B (d_numI rfl))) fun _ => et_not (t_test (d_chain d_int (d_vI rfl) rd_b0 (fun _ => d_int) (fun _ => rd_b0)))) (fun _ H1 e1 => k H1 e1) fun hb => ?_
    have := Bool.and_eq_true_iff.mp (not_false_inv (or_false_inv hb).2)
    exact absurd ⟨of_decide_eq_true this.1, of_decide_eq_true this.2⟩ hi
theorem x_asked_many (T : Bl mg) (e_BadMany : ExT K mg "BadMany" CM) (c_is_number : Cal P w K mg base CX0 1 "is_number" ["thing"] spNum) (F : FDef K mg "asked_many" s_asked_many) :
    Cal P w K mg base (L2.CX P w) 2 "asked_many" ["many"] (spX fun vs H C => ∃ v, vs = [v] ∧ BadM H v ∧ C = CM) := by
  refine Cal.ofX F sc_asked_many (fun vs H C ⟨v, e, _⟩ => by rw [e] <;> rfl) (fun _ _ _ _ _ _ us hl => match us, hl with | [_], _ => rfl) (fun f cdv A outer s H vs C E hr h k => ?_)
  obtain ⟨v, rfl, hv, rfl⟩ := h
  refine ⟨_, (pss_one (ps_if (PW.pt (pw_or (pt_not (pt_val (pe_cal c_is_number (hr.mono (by decide)) rfl pass0 (pa_cons (pv 0) pa_nil)))) (pw_or1 (pt_cmpR op_lt (pv 0) pe_int (nomark _)))))
      (pss_one (ps_raiseX e_BadMany rfl (takes_of rfl rfl rfl rfl) rfl))
      pss_nil)), fun D => ?_⟩
  rcases hv with n | ⟨i, rfl, hi⟩
  · exact s_when (b := !false || false) (et_or (et_not (t_B (d_numN rfl n))) fun h => nomatch h) (fun _ H1 e1 => k H1 e1) fun h => nomatch h
  · refine s_when (b := !true || decide (i < 1)) (et_or (et_not (t_B (d_numI rfl))) fun _ => t_test (d_op (d_vI rfl) d_int rd_b0)) (fun _ H1 e1 => k H1 e1) fun hb => ?_
    exact absurd hi (of_decide_eq_false (or_false_inv hb).2)
theorem x_asked_web (T : Bl mg) (e_BadTies : ExT K mg "BadTies" CT) (c_is_tie : Cal P w K mg base CX0 2 "is_tie" ["thing", "places"] (spF false RTieD)) (c_asked_places : Cal P w K mg base CX0 2 "asked_places" ["places"] (spF false RAskP))
    (x_asked_places : Cal P w K mg base (L2.CX P w) 2 "asked_places" ["places"] (spX fun vs H C => ∃ v, vs = [v] ∧ BadP H v ∧ C = CP)) (F : FDef K mg "asked_web" s_asked_web) :
    Cal P w K mg base (L2.CX P w) 3 "asked_web" ["places", "ties"] (spX fun vs H C => ∃ v u, vs = [v, u] ∧ ((BadP H v ∧ C = CP) ∨ (v = .int 4 ∧ BadT H u ∧ C = CT))) := by
  refine Cal.ofX F sc_asked_web (fun vs H C ⟨v, u, e, _⟩ => by rw [e] <;> rfl) (fun _ _ _ _ _ _ us hl => match us, hl with | [_, _], _ => rfl) (fun f cdv A outer s H vs C E hr h k => ?_)
  obtain ⟨v, u, rfl, ⟨hv, rfl⟩ | ⟨rfl, hu, rfl⟩⟩ := h
  · exact ⟨_, (pss_cons (ps_expr (pe_cal x_asked_places (hr.mono (by decide)) rfl (passX (takes_of rfl rfl rfl rfl)) (pa_cons (pv 0) pa_nil))) pss_never), fun D => ⟨_, rfl, _, ⟨v, rfl, hv, rfl⟩, k⟩⟩
  have four : ∀ {D : Ends} {tz : TS}, (∀ H1, Ex H H1 → tz D (start N_asked_web [.int 4, u]) H1) → tSeq (tDrop (tCall (spF false RAskP) [] E0 (tCons (tVar 0) tNil))) tz D (start N_asked_web [.int 4, u]) H := fun h => q_dropD (n := false) (d := .none) (d_call (ds := [.int 4]) (da_cons (d_vI rfl) da_nil) (use_spF ⟨4, rfl, by decide, by decide, rfl⟩)) h
  have tieT : ∀ {σ : L2.St} {H : Hp} {te tp : TE} {x : PyData}, EvD te σ H x → EvD tp σ H (.int 4) → EvD (tCall (spF false RTieD) [] E0 (tCons te (tCons tp tNil))) σ H (.bool (tie4 x)) := fun {σ H te tp x} h1 h2 => d_call (ds := [x, .int 4]) (da_cons h1 (da_cons h2 da_nil)) (use_spF ⟨x, rfl, rfl⟩)
  cases hu with
  | dct hd =>
    refine ⟨_, (pss_cons (ps_expr (pe_cal c_asked_places (hr.mono (by decide)) rfl pass0 (pa_cons (pv 0) pa_nil))) (pss_cons (ps_if (PW.pt (pw_or (pt_not (pt_val (pe_callB (call_isiK1 (K := K) rfl) rfl T.isinstance bo_isinstance (pa_cons (pv 1) (pa_cons (pe_bltn (v := .ty "list") rfl T.list bo_list rfl) pa_nil))))) (pw_or1 (pt_not (pt_val (pe_callB (cr_allK (K := K) rfl rfl) rfl T.all bo_all (pa_cons (pe_lc (own := [("tie", 2)]) (tt := tYes) rfl sc_asked_web.nd (pi_listK (K := K) rfl (pv 1)) (blkOk_by (N := N_asked_web) (sc := defScope s_asked_web) (by decide +kernel)) (fun _ _ _ _ _ => (pg_name (i := 2) sc_asked_web.nd rfl (Or.inl rfl))) (fun _ _ _ _ _ => pts_nil) (fun _ _ _ _ _ => (pe_cal c_is_tie (hr.mono (by decide)) rfl pass0 (pa_cons (pv 2) (pa_cons (pv 0) pa_nil))))) pa_nil)))))))
      (pss_one (ps_raiseX e_BadTies rfl (takes_of rfl rfl rfl rfl) rfl))
      pss_nil) pss_never)), fun D => four fun H1 e1 => ?_⟩
    exact q_when (b := !false || false) (et_or (et_not (t_B (d_isiV rfl (fun _ e => .base (.dK (e _ _ (e1 _ _ hd)))) (show kitB "dict" "list" = some false by decide +kernel)))) fun h => nomatch h) (fun _ H2 e2 => k H2 (e1.trans e2)) fun h => nomatch h
  | odd hd nl =>
    refine ⟨_, (pss_cons (ps_expr (pe_cal c_asked_places (hr.mono (by decide)) rfl pass0 (pa_cons (pv 0) pa_nil))) (pss_cons (ps_if (PW.pt (pw_or (pt_not (pt_val (pe_callB (call_isiK1 (K := K) rfl) rfl T.isinstance bo_isinstance (pa_cons (pv 1) (pa_cons (pe_bltn (v := .ty "list") rfl T.list bo_list rfl) pa_nil))))) (pw_or1 (pt_not (pt_val (pe_callB (cr_allK (K := K) rfl rfl) rfl T.all bo_all (pa_cons (pe_lc (own := [("tie", 2)]) (tt := tYes) rfl sc_asked_web.nd (pi_listK (K := K) rfl (pv 1)) (blkOk_by (N := N_asked_web) (sc := defScope s_asked_web) (by decide +kernel)) (fun _ _ _ _ _ => (pg_name (i := 2) sc_asked_web.nd rfl (Or.inl rfl))) (fun _ _ _ _ _ => pts_nil) (fun _ _ _ _ _ => (pe_cal c_is_tie (hr.mono (by decide)) rfl pass0 (pa_cons (pv 2) (pa_cons (pv 0) pa_nil))))) pa_nil)))))))
      (pss_one (ps_raiseX e_BadTies rfl (takes_of rfl rfl rfl rfl) rfl))
      pss_nil) pss_never)), fun D => four fun H1 e1 => ?_⟩
    have kl : ∀ {x : PyData}, Dt H u x → (∀ ds, x ≠ .list ds) → kitB (tyD x) "list" = some false := fun {x} h n => by
      cases h with
      | non => decide +kernel
      | bl b => exact (show kitB "bool" "list" = some false by decide +kernel)
      | int i => exact (show kitB "int" "list" = some false by decide +kernel)
      | str z => exact (show kitB "str" "list" = some false by decide +kernel)
      | lst h a => exact absurd rfl (n _)
      | tup h a => exact (show kitB "tuple" "list" = some false by decide +kernel)
    exact q_when (b := !false || false) (et_or (et_not (t_B (d_isi (d_var rfl (hd.ex e1)) (kl hd nl)))) fun h => nomatch h) (fun _ H2 e2 => k H2 (e1.trans e2)) fun h => nomatch h
  | @some_ _ ds hd l b =>
    refine ⟨_, (pss_cons (ps_expr (pe_cal c_asked_places (hr.mono (by decide)) rfl pass0 (pa_cons (pv 0) pa_nil))) (pss_cons (ps_if (PW.pt (pw_or (pt_not (pt_val (pe_callB (call_isiK1 (K := K) rfl) rfl T.isinstance bo_isinstance (pa_cons (pv 1) (pa_cons (pe_bltn (v := .ty "list") rfl T.list bo_list rfl) pa_nil))))) (pw_or1 (pt_not (pt_val (pe_callB (cr_allK (K := K) rfl rfl) rfl T.all bo_all (pa_cons (pe_lc (own := [("tie", 2)]) (tt := tYes) rfl sc_asked_web.nd (pi_listK (K := K) rfl (pv 1)) (blkOk_by (N := N_asked_web) (sc := defScope s_asked_web) (by decide +kernel)) (fun _ _ _ _ _ => (pg_name (i := 2) sc_asked_web.nd rfl (Or.inl rfl))) (fun _ _ _ _ _ => pts_nil) (fun _ _ _ _ _ => (pe_cal c_is_tie (hr.mono (by decide)) rfl pass0 (pa_cons (pv 2) (pa_cons (pv 0) pa_nil))))) pa_nil)))))))
      (pss_one (ps_raiseX e_BadTies rfl (takes_of rfl rfl rfl rfl) rfl))
      pss_nil) pss_never)), fun D => four fun H1 e1 => ?_⟩
    refine q_when (b := !true || !(ds.all tie4)) (et_or (et_not (t_B (d_isi (d_var rfl (hd.ex e1)) (show kitB "list" "list" = some true by decide +kernel)))) fun _ => et_not (t_B (d_cb1 (d_lcM (l := ds) (emb := id) (fun x => .bool (tie4 x)) ?_ (by omega) (fun _ _ => rfl) fun x hx v H2 e2 hv => ?_) rc_allM))) (fun _ H2 e2 => k H2 (e1.trans e2)) fun hb => ?_
    · rw [List.map_id]
      exact dw_list (d_var rfl (hd.ex e1))
    · exact turn_name rfl t_yes fun _ => tieT (d_var rfl hv) (d_vI rfl)
    · rw [b] at hb
      cases hb
  | twin hd =>
    refine ⟨_, (pss_cons (ps_expr (pe_cal c_asked_places (hr.mono (by decide)) rfl pass0 (pa_cons (pv 0) pa_nil))) (pss_cons (ps_if (PW.pt (pw_or (pt_not (pt_val (pe_callB (call_isiK1 (K := K) rfl) rfl T.isinstance bo_isinstance (pa_cons (pv 1) (pa_cons (pe_bltn (v := .ty "list") rfl T.list bo_list rfl) pa_nil))))) (pw_or1 (pt_not (pt_val (pe_callB (cr_allK (K := K) rfl rfl) rfl T.all bo_all (pa_cons (pe_lc (own := [("tie", 2)]) (tt := tYes) rfl sc_asked_web.nd (pi_listK (K := K) rfl (pv 1)) (blkOk_by (N := N_asked_web) (sc := defScope s_asked_web) (by decide +kernel)) (fun _ _ _ _ _ => (pg_name (i := 2) sc_asked_web.nd rfl (Or.inl rfl))) (fun _ _ _ _ _ => pts_nil) (fun _ _ _ _ _ => (pe_cal c_is_tie (hr.mono (by decide)) rfl pass0 (pa_cons (pv 2) (pa_cons (pv 0) pa_nil))))) pa_nil)))))))
      (pss_one (ps_raiseX e_BadTies rfl (takes_of rfl rfl rfl rfl) rfl))
      pss_nil) (pss_one (ps_if (pt_cmpR (op_neK (K := K) rfl (hu64 hr)) (pe_callB (call_lenTO (K := K) (P := P) (w := w) rfl rfl rfl) rfl T.len bo_len (pa_cons (pe_callTy (cr_setOfTK (K := K) (P := P) (w := w) rfl rfl rfl rfl (hu64 hr)) rfl T.set bo_set (pa_cons (pv 1) pa_nil)) pa_nil)) (pe_callB (call_lenK (K := K) (w := w) rfl rfl) rfl T.len bo_len (pa_cons (pv 1) pa_nil)) (nomark _))
      (pss_one (ps_raiseX e_BadTies rfl (takes_of rfl rfl rfl rfl) rfl))
      pss_nil)))), fun D => four fun H1 e1 => ?_⟩
    have hd1 := hd.ex e1
    refine q_when (b := !true || !(twin5.all fun p => tie4 (pD p))) (et_or (et_not (t_B (d_isi (d_var rfl hd1) (show kitB "list" "list" = some true by decide +kernel)))) fun _ => et_not (t_B (d_cb1 (d_lcM (l := twin5) (emb := pD) (fun p => .bool (tie4 (pD p))) (dw_list (d_var rfl hd1)) (by show 3 ≤ 1000000; decide) (fun _ _ => rfl) fun p hp v H2 e2 hv => ?_) rc_allM))) (fun hb => absurd hb (by decide)) fun _ H2 e2 => ?_
    · exact turn_name rfl t_yes fun _ => tieT (d_var rfl hv) (d_vI rfl)
    · exact s_when (b := true) (t_twin (d_var rfl (hd1.ex e2)) (EvR.is (d_cb1 (d_var rfl (hd1.ex e2)) rc_lenL) rfl)) (fun _ H3 e3 => k H3 ((e1.trans e2).trans e3)) fun h => nomatch h
theorem x_most (T : Bl mg) (e_BadPlaces : ExT K mg "BadPlaces" CP) (c_is_number : Cal P w K mg base CX0 1 "is_number" ["thing"] spNum) (x_asked_many : Cal P w K mg base (L2.CX P w) 2 "asked_many" ["many"] (spX fun vs H C => ∃ v, vs = [v] ∧ BadM H v ∧ C = CM)) (F : FDef K mg "most" s_most) :
    Cal P w K mg base (L2.CX P w) 3 "most" ["places", "many"] (spX fun vs H C => ∃ v u, vs = [v, u] ∧ ((BadM H v ∧ C = CP) ∨ (∃ p : Int, v = .int p ∧ 1 ≤ p ∧ BadM H u ∧ C = CM))) := by
  refine Cal.ofX F sc_most (fun vs H C ⟨v, u, e, _⟩ => by rw [e] <;> rfl) (fun _ _ _ _ _ _ us hl => match us, hl with | [_, _], _ => rfl) (fun f cdv A outer s H vs C E hr h k => ?_)
  obtain ⟨v, u, rfl, ⟨hv, rfl⟩ | ⟨p, rfl, p1, hu, rfl⟩⟩ := h
  · refine ⟨_, (pss_cons (ps_if (PW.pt (pw_or (pt_not (pt_val (pe_cal c_is_number (hr.mono (by decide)) rfl pass0 (pa_cons (pv 0) pa_nil)))) (pw_or1 (pt_cmpR op_lt (pv 0) pe_int (nomark _)))))
      (pss_one (ps_raiseX e_BadPlaces rfl (takes_of rfl rfl rfl rfl) rfl))
      pss_nil) pss_never), fun D => ?_⟩
    rcases hv with n | ⟨i, rfl, hi⟩
    · exact q_when (b := !false || false) (et_or (et_not (t_B (d_numN rfl n))) fun h => nomatch h) (fun _ H1 e1 => k H1 e1) fun h => nomatch h
    · refine q_when (b := !true || decide (i < 1)) (et_or (et_not (t_B (d_numI rfl))) fun _ => t_test (d_op (d_vI rfl) d_int rd_b0)) (fun _ H1 e1 => k H1 e1) fun hb => ?_
      exact absurd hi (of_decide_eq_false (or_false_inv hb).2)
  · refine ⟨_, (pss_cons (ps_if (PW.pt (pw_or (pt_not (pt_val (pe_cal c_is_number (hr.mono (by decide)) rfl pass0 (pa_cons (pv 0) pa_nil)))) (pw_or1 (pt_cmpR op_lt (pv 0) pe_int (nomark _)))))
      (pss_one ps_never)
      pss_nil) (pss_cons (ps_expr (pe_cal x_asked_many (hr.mono (by decide)) rfl (passX (takes_of rfl rfl rfl rfl)) (pa_cons (pv 1) pa_nil))) pss_never)), fun D => ?_⟩
    refine q_when (b := !true || decide (p < 1)) (et_or (et_not (t_B (d_numI rfl))) fun _ => t_test (d_op (d_vI rfl) d_int rd_b0)) (fun hb => ?_) fun _ H1 e1 => ⟨_, rfl, _, ⟨u, rfl, hu.ex e1, rfl⟩, fun H' e' => k H' (e1.trans e')⟩
    rw [decide_eq_false (by omega)] at hb
    cases hb
theorem x_fullest (T : Bl mg) (c_asked_places : Cal P w K mg base CX0 2 "asked_places" ["places"] (spF false RAskP)) (x_asked_places : Cal P w K mg base (L2.CX P w) 2 "asked_places" ["places"] (spX fun vs H C => ∃ v, vs = [v] ∧ BadP H v ∧ C = CP))
    (x_asked_many : Cal P w K mg base (L2.CX P w) 2 "asked_many" ["many"] (spX fun vs H C => ∃ v, vs = [v] ∧ BadM H v ∧ C = CM)) (F : FDef K mg "fullest" s_fullest) :
    Cal P w K mg base (L2.CX P w) 3 "fullest" ["places", "many"] (spX fun vs H C => ∃ v u, vs = [v, u] ∧ ((BadP H v ∧ C = CP) ∨ (∃ p : Int, v = .int p ∧ 1 ≤ p ∧ p ≤ 60 ∧ BadM H u ∧ C = CM))) := by
  refine Cal.ofX F sc_fullest (fun vs H C ⟨v, u, e, _⟩ => by rw [e] <;> rfl) (fun _ _ _ _ _ _ us hl => match us, hl with | [_, _], _ => rfl) (fun f cdv A outer s H vs C E hr h k => ?_)
  obtain ⟨v, u, rfl, ⟨hv, rfl⟩ | ⟨p, rfl, p1, p60, hu, rfl⟩⟩ := h
  · exact ⟨_, (pss_cons (ps_expr (pe_cal x_asked_places (hr.mono (by decide)) rfl (passX (takes_of rfl rfl rfl rfl)) (pa_cons (pv 0) pa_nil))) pss_never), fun D => ⟨_, rfl, _, ⟨v, rfl, hv, rfl⟩, k⟩⟩
  · refine ⟨_, (pss_cons (ps_expr (pe_cal c_asked_places (hr.mono (by decide)) rfl pass0 (pa_cons (pv 0) pa_nil))) (pss_cons (ps_expr (pe_cal x_asked_many (hr.mono (by decide)) rfl (passX (takes_of rfl rfl rfl rfl)) (pa_cons (pv 1) pa_nil))) pss_never)), fun D => ?_⟩
    exact q_dropD (n := false) (d := .none) (d_call (ds := [.int p]) (da_cons (d_vI rfl) da_nil) (use_spF ⟨p, rfl, p1, p60, rfl⟩)) fun H1 e1 => ⟨_, rfl, _, ⟨u, rfl, hu.ex e1, rfl⟩, fun H' e' => k H' (e1.trans e')⟩
theorem x_parted (T : Bl mg) (x_asked_web : Cal P w K mg base (L2.CX P w) 3 "asked_web" ["places", "ties"] (spX fun vs H C => ∃ v u, vs = [v, u] ∧ ((BadP H v ∧ C = CP) ∨ (v = .int 4 ∧ BadT H u ∧ C = CT)))) (F : FDef K mg "parted" s_parted) :
    Cal P w K mg base (L2.CX P w) 4 "parted" ["places", "ties"] (spX fun vs H C => ∃ v u, vs = [v, u] ∧ ((BadP H v ∧ C = CP) ∨ (v = .int 4 ∧ BadT H u ∧ C = CT))) := by
  refine Cal.ofX F sc_parted (fun vs H C ⟨v, u, e, _⟩ => by rw [e] <;> rfl) (fun _ _ _ _ _ _ us hl => match us, hl with | [_, _], _ => rfl) (fun f cdv A outer s H vs C E hr h k => ?_)
  obtain ⟨v, u, rfl, h⟩ := h
  exact ⟨_, (pss_cons (ps_expr (pe_cal x_asked_web (hr.mono (by decide)) rfl (passX (takes_of rfl rfl rfl rfl)) (pa_cons (pv 0) (pa_cons (pv 1) pa_nil)))) pss_never), fun D => ⟨_, rfl, _, rfl, C, ⟨v, u, rfl, h⟩, k⟩⟩
theorem x_told (T : Bl mg) (c_asked_web : Cal P w K mg base CX0 3 "asked_web" ["places", "ties"] (spF false RAskW)) (x_asked_web : Cal P w K mg base (L2.CX P w) 3 "asked_web" ["places", "ties"] (spX fun vs H C => ∃ v u, vs = [v, u] ∧ ((BadP H v ∧ C = CP) ∨ (v = .int 4 ∧ BadT H u ∧ C = CT))))
    (x_asked_many : Cal P w K mg base (L2.CX P w) 2 "asked_many" ["many"] (spX fun vs H C => ∃ v, vs = [v] ∧ BadM H v ∧ C = CM)) (F : FDef K mg "told" s_told) :
    Cal P w K mg base (L2.CX P w) 4 "told" ["places", "ties", "many"] (spX fun vs H C => ∃ v u z, vs = [v, u, z] ∧ (((BadP H v ∧ C = CP) ∨ (v = .int 4 ∧ BadT H u ∧ C = CT)) ∨ (v = .int 4 ∧ Dt H u (.list (pL [(0, 1)])) ∧ BadM H z ∧ C = CM))) := by
  refine Cal.ofX F sc_told (fun vs H C ⟨v, u, z, e, _⟩ => by rw [e] <;> rfl) (fun _ _ _ _ _ _ us hl => match us, hl with | [_, _, _], _ => rfl) (fun f cdv A outer s H vs C E hr h k => ?_)
  obtain ⟨v, u, z, rfl, h | ⟨rfl, hu, hz, rfl⟩⟩ := h
  · exact ⟨_, (pss_cons (ps_expr (pe_cal x_asked_web (hr.mono (by decide)) rfl (passX (takes_of rfl rfl rfl rfl)) (pa_cons (pv 0) (pa_cons (pv 1) pa_nil)))) pss_never), fun D => ⟨_, rfl, _, rfl, C, ⟨v, u, rfl, h⟩, k⟩⟩
  · refine ⟨_, (pss_cons (ps_expr (pe_cal c_asked_web (hr.mono (by decide)) rfl pass0 (pa_cons (pv 0) (pa_cons (pv 1) pa_nil)))) (pss_cons (ps_expr (pe_cal x_asked_many (hr.mono (by decide)) rfl (passX (takes_of rfl rfl rfl rfl)) (pa_cons (pv 2) pa_nil))) pss_never)), fun D => ?_⟩
    have W : WebOk 4 [((0 : Int), (1 : Int))] := ⟨by decide, by decide⟩
    exact q_dropD (n := false) (d := .none) (d_call (ds := [.int 4, .list (pL [(0, 1)])]) (da_cons (d_vI rfl) (da_cons (d_var rfl hu) da_nil)) (use_spF ⟨4, [(0, 1)], rfl, by decide, by decide, W, by decide, rfl⟩)) fun H1 e1 => ⟨_, rfl, _, ⟨z, rfl, hz.ex e1, rfl⟩, fun H' e' => k H' (e1.trans e')⟩
theorem x_law_with_places (T : Bl mg) (x_fullest : Cal P w K mg base (L2.CX P w) 3 "fullest" ["places", "many"] (spX fun vs H C => ∃ v u, vs = [v, u] ∧ ((BadP H v ∧ C = CP) ∨ (∃ p : Int, v = .int p ∧ 1 ≤ p ∧ p ≤ 60 ∧ BadM H u ∧ C = CM))))
    (x_told : Cal P w K mg base (L2.CX P w) 4 "told" ["places", "ties", "many"] (spX fun vs H C => ∃ v u z, vs = [v, u, z] ∧ (((BadP H v ∧ C = CP) ∨ (v = .int 4 ∧ BadT H u ∧ C = CT)) ∨ (v = .int 4 ∧ Dt H u (.list (pL [(0, 1)])) ∧ BadM H z ∧ C = CM))))
    (x_parted : Cal P w K mg base (L2.CX P w) 4 "parted" ["places", "ties"] (spX fun vs H C => ∃ v u, vs = [v, u] ∧ ((BadP H v ∧ C = CP) ∨ (v = .int 4 ∧ BadT H u ∧ C = CT)))) (F : FDef K mg "_law_with_places" s_law_with_places) :
    Cal P w K mg base (L2.CX P w) 5 "_law_with_places" ["_law_door", "_law_places"] (spX fun vs H C => ∃ (d : Int) (v : V), vs = [.int d, v] ∧ BadP H v ∧ C = CP) := by
  refine Cal.ofX F sc_law_with_places (fun vs H C ⟨d, v, e, _⟩ => by rw [e] <;> rfl) (fun _ _ _ _ _ _ us hl => match us, hl with | [_, _], _ => rfl) (fun f cdv A outer s H vs C E hr h k => ?_)
  obtain ⟨d, v, rfl, hv, rfl⟩ := h
  refine ⟨_, (pss_cons (ps_if (pt_cmpR op_lt (pv 0) pe_int (nomark _))
      (pss_one (ps_ret (pe_ifExp (pt_cmpR (op_eqK (K := K) rfl (hu64 hr)) (pv 0) pe_int (nomark _)) (pe_cal x_fullest (hr.mono (by decide)) rfl (passX (takes_of rfl rfl rfl rfl)) (pa_cons (pv 1) (pa_cons pe_int pa_nil))) (pe_cal x_told (hr.mono (by decide)) rfl (passX (takes_of rfl rfl rfl rfl)) (pa_cons (pv 1) (pa_cons pe_non (pa_cons pe_int pa_nil)))))))
      pss_nil)
    (pss_one (ps_ret (pe_cal x_parted (hr.mono (by decide)) rfl (passX (takes_of rfl rfl rfl rfl)) (pa_cons (pv 1) (pa_cons pe_non pa_nil)))))), fun D => ?_⟩
  refine q_when (b := decide (d < 2)) (t_test (d_op (d_vI rfl) d_int rd_b0)) (fun _ H1 e1 => ?_) fun _ H1 e1 => ⟨_, rfl, _, ⟨v, .non, rfl, .inl ⟨hv.ex e1, rfl⟩⟩, fun H' e' => k H' (e1.trans e')⟩
  refine (t_test (b := decide (d = 0)) (d_op (d_vI rfl) d_int rd_eqI)) H1 (Ex.refl H1) _ fun H2 e2 => ?_
  have e12 := e1.trans e2
  cases decide (d = 0) with
  | true => exact (if_pos rfl).mpr ⟨_, rfl, _, ⟨v, .int 0, rfl, .inl ⟨hv.ex e12, rfl⟩⟩, fun H' e' => k H' (e12.trans e')⟩
  | false => exact (if_neg (by decide)).mpr ⟨_, rfl, _, ⟨v, .non, .int 0, rfl, .inl (.inl ⟨hv.ex e12, rfl⟩)⟩, fun H' e' => k H' (e12.trans e')⟩
end
end SC

/-! PY: law 5: bad ties by the cells. -/
namespace SC
open PySem PySem.Spec PyProof.Rows L2 Evl
local macro_rules | `(tactic| walk_at "rd") => `(tactic| first
  | with_reducible exact rd_addI | with_reducible exact rd_i0 | with_reducible exact rd_b0
  | with_reducible exact rd_eqI | with_reducible exact rd_neI | with_reducible exact rd_eqL | with_reducible exact rd_neL | with_reducible exact rd_eqB | with_reducible exact rd_neB
  | with_reducible exact rd_eqP | with_reducible exact rd_neP | with_reducible exact rd_neQ
  | with_reducible exact rd_inI | with_reducible exact rd_notInI | with_reducible exact rd_inP | with_reducible exact rd_notInP
  | with_reducible refine rd_i ?_)
local macro_rules | `(tactic| walk_at "d") => `(tactic| repeat' first
  | with_reducible exact d_int | with_reducible exact d_bl | with_reducible exact d_non | with_reducible exact d_str
  | ((with_reducible apply d_vI); exact rfl) | ((with_reducible apply d_vB); exact rfl) | exact d_var rfl (by assumption)
  | with_reducible apply d_op | with_reducible exact da_nil | with_reducible apply da_cons | walk_at "rd" | with_reducible exact dp_none | with_reducible apply dp_some | with_reducible exact t_yes)

local macro_rules | `(tactic| walk_at "clo") => `(tactic| repeat' first
  | exact d_int | exact d_bl | exact d_non | exact d_str | exact d_neg d_int | exact d_vI rfl | exact da_nil | apply da_cons | refine EvR.weak (n := true) (d_tup ?_ (by decide)) | refine EvR.weak (n := true) (d_lst ?_ (by decide)) | exact d_var rfl (by assumption))
local macro_rules | `(tactic| walk_at "th") => `(tactic| repeat' first
  | exact h_nil | apply h_cons | exact h_dct | exact h_dt (n := false) (by walk_at "clo"))
def bad17a : List TH := [.dt .none, .dt (.tuple [pD (0, 1)]), .dt (.str "01"), .dt (.int 5), .dct, .dt (.list [.none]), .dt (.list [.list [.int 0, .int 1]]), .dt (.list [pD (1, 0)]), .dt (.list [pD (1, 1)]), .dt (.list [pD (0, 4)]), .dt (.list [pD (-1, 2)]), .dt (.list [.tuple [.int 0, .int 1, .int 2]])]
def bad17b : List TH := [.dt (.list [.tuple [.str "0", .int 1]]), .dt (.list [.tuple [.int 0, .bool true]]), .dt (.list [.tuple [.int 0]]), .dt (.list (pL twin5)), .dt (.list [.tuple [.int 0, .tuple [.int 1]]])]
theorem bad17_T {H : Hp} {v : V} : ∀ th ∈ bad17a ++ bad17b, Th H v th → BadT H v := by
  intro th hm h
  simp only [bad17a, bad17b, List.cons_append, List.nil_append, List.mem_cons, List.not_mem_nil, or_false] at hm
  rcases hm with z | z | z | z | z | z | z | z | z | z | z | z | z | z | z | z | z <;> (subst z; cases h; rename_i h0; first | exact .dct h0 | exact .twin h0 | (refine .some_ h0 ?_ ?_ <;> decide) | (refine .odd h0 ?_; intro ds e; cases e))
/-! new things beside a list -/
def EvNs (a : Addr) (ta : TA) (σ : L2.St) (H : Hp) (ds : List PyData) : Prop := ∀ H1, Ex H H1 → ∀ Q : List V → Hp → Prop, (∀ vs H2, Ex H1 H2 → DtAll H2 vs ds → (∀ v ∈ vs, v ≠ .ref a) → Q vs H2) → ta σ H1 Q
section
variable {K : PySem.W.Frag} {σ : L2.St} {H : Hp} {te tb : TE} {tas : TA} {a : Addr} {d : PyData} {ds : List PyData} {o : HO}
theorem n_nil : EvNs a tNil σ H [] := fun H1 _ Q q => q [] H1 (Ex.refl H1) .nil fun v h => nomatch h
theorem n_new (ha : H a = some o) (h : EvR true te σ H d) (ht : EvNs a tas σ H ds) : EvNs a (tCons te tas) σ H (d :: ds) := fun H1 e1 Q q => h H1 e1 _ fun v H2 e2 hv fr => ht H2 (e1.trans e2) _ fun vs H3 e3 hvs nv => q _ H3 (e2.trans e3) (.cons (hv.ex e3) hvs) fun x hx => by
  rcases List.mem_cons.mp hx with z | z
  · obtain ⟨p, e, hp⟩ := fr rfl
    rw [z, e]
    intro w
    cases w
    rw [e1 _ _ ha] at hp
    cases hp
  · exact nv x z
theorem n_non (h : EvD te σ H .none) (ht : EvNs a tas σ H ds) : EvNs a (tCons te tas) σ H (.none :: ds) := fun H1 e1 Q q => h H1 e1 _ fun v H2 e2 hv _ => ht H2 (e1.trans e2) _ fun vs H3 e3 hvs nv => q _ H3 (e2.trans e3) (.cons (hv.ex e3) hvs) fun x hx => by
  rcases List.mem_cons.mp hx with z | z
  · rw [z, hv.non_inv]
    intro w
    cases w
  · exact nv x z
/-- one of a list of such -/
theorem n_ix {k : Nat} (h : EvNs a tas σ H ds) (hl : ds.length ≤ 1000) (hi : EvD tb σ H (.int (k : Int))) (hk : ds[k]? = some d) {Q : VK} (q : ∀ v H2, Ex H H2 → Dt H2 v d → v ≠ .ref a → Q v H2) : tOp (rUIx K) (tLst tas) tb σ H Q := h H (Ex.refl H) _ fun vs H2 e2 hv nv => ⟨by rw [hv.length, sizeLine_eq]; omega, fun p hp => hi _ (e2.trans (Ex.new hp)) _ fun u H3 e3 hu _ => by
  cases hu.int_inv
  obtain ⟨w, hw, hd⟩ := hv.get hk
  exact .inl ⟨p, vs, (k : Int), w, rfl, rfl, sq_of (e3 _ _ upd_same), atI_nat hw, q w H3 ((e2.trans (Ex.new hp)).trans e3) (hd.ex ((Ex.new hp).trans e3)) (nv w (List.mem_of_getElem? hw))⟩⟩
theorem dt_set : ∀ {vs : List V} {ds : List PyData} {j : Nat} {v : V} {d : PyData}, DtAll H vs ds → Dt H v d → DtAll H (vs.set j v) (ds.set j d)
  | _, _, _, _, _, .nil, _ => .nil
  | _, _, 0, _, _, .cons _ t, h => .cons h t
  | _, _, j + 1, _, _, .cons g t, h => .cons g (dt_set t h)
end
def six5 : List (Int × Int) := [(0, 1), (0, 2), (0, 3), (1, 2), (1, 3), (2, 3)]
def sd5 (mo : Int) : List PyData := [.none, pD (3, 0), pD (2, 2), pD (0, 4 + mo), .tuple [.bool true, .int 2], .tuple [.int 0, .none], .list (iL [0, 1]), pD (-1 - mo, 1)]
theorem sd5_ok {mo : Int} (h : 0 ≤ mo) : ∀ d ∈ sd5 mo, tie4 d = false ∧ (flatD d = true ∨ ∃ ns, d = .list (iL ns)) := by
  intro d hd
  simp only [sd5, List.mem_cons, List.not_mem_nil, or_false] at hd
  rcases hd with z | z | z | z | z | z | z | z <;> subst z
  · exact ⟨rfl, .inl rfl⟩
  · exact ⟨by decide, .inl rfl⟩
  · exact ⟨by decide, .inl rfl⟩
  · refine ⟨?_, .inl rfl⟩
    show (decide ((0 : Int) ≤ 0) && (decide (0 < 4 + mo) && decide (4 + mo < 4))) = false
    rw [decide_eq_false (show ¬ 4 + mo < 4 by omega)]
    cases decide (0 < 4 + mo) <;> rfl
  · exact ⟨rfl, .inl rfl⟩
  · exact ⟨rfl, .inl rfl⟩
  · exact ⟨rfl, .inr ⟨[0, 1], rfl⟩⟩
  · refine ⟨?_, .inl rfl⟩
    show (decide (0 ≤ -1 - mo) && _) = false
    rw [decide_eq_false (show ¬ 0 ≤ -1 - mo by omega)]
    rfl
def spBadTies : Sp := fun vs H Q _ => ∃ wh mo : Int, vs = [.int wh, .int mo] ∧ 0 ≤ wh ∧ 0 ≤ mo ∧ ∀ v H', Ex H H' → BadT H' v → Q v H'
section
variable {P : Program} {w : World} {K : PySem.W.Frag} {mg : Str → Option Value} {base : Heap}
theorem ok_law_bad_ties (T : Bl mg) (F : FDef K mg "_law_bad_ties" s_law_bad_ties) : Cal P w K mg base CX0 1 "_law_bad_ties" ["_law_which", "_law_more"] spBadTies := by
  refine Cal.of F sc_law_bad_ties (fun vs H Q E ⟨wh, mo, e, _⟩ => by rw [e] <;> rfl) (fun _ _ _ _ _ _ us hl => match us, hl with | [_, _], _ => rfl) (fun f cdv A' outer s H vs Q E hr h => ?_)
  obtain ⟨wh, mo, rfl, w0, m0, k⟩ := h
  refine ⟨_, (pss_cons (ps_set (i := 2) sc_law_bad_ties.nd rfl (Or.inl rfl) (pe_lst (pa_cons pe_non (pa_cons (pe_tup (pa_cons (pe_tup (pa_cons pe_int (pa_cons pe_int pa_nil))) pa_nil)) (pa_cons pe_str (pa_cons pe_int (pa_cons pe_dnewK (pa_cons (pe_lst (pa_cons pe_non pa_nil)) (pa_cons (pe_lst (pa_cons (pe_lst (pa_cons pe_int (pa_cons pe_int pa_nil))) pa_nil)) (pa_cons (pe_lst (pa_cons (pe_tup (pa_cons pe_int (pa_cons pe_int pa_nil))) pa_nil)) (pa_cons (pe_lst (pa_cons (pe_tup (pa_cons pe_int (pa_cons pe_int pa_nil))) pa_nil)) (pa_cons (pe_lst (pa_cons (pe_tup (pa_cons pe_int (pa_cons pe_int pa_nil))) pa_nil)) (pa_cons (pe_lst (pa_cons (pe_tup (pa_cons (pe_un un_neg pe_int) (pa_cons pe_int pa_nil))) pa_nil)) (pa_cons (pe_lst (pa_cons (pe_tup (pa_cons pe_int (pa_cons pe_int (pa_cons pe_int pa_nil)))) pa_nil)) pa_nil))))))))))))))
    (pss_cons (ps_set (i := 2) sc_law_bad_ties.nd rfl (Or.inl rfl) (pe_op op_uAdd (pv 2) (pe_lst (pa_cons (pe_lst (pa_cons (pe_tup (pa_cons pe_str (pa_cons pe_int pa_nil))) pa_nil)) (pa_cons (pe_lst (pa_cons (pe_tup (pa_cons pe_int (pa_cons pe_bl pa_nil))) pa_nil)) (pa_cons (pe_lst (pa_cons (pe_tup (pa_cons pe_int pa_nil)) pa_nil)) (pa_cons (pe_lst (pa_cons (pe_tup (pa_cons pe_int (pa_cons pe_int pa_nil))) (pa_cons (pe_tup (pa_cons pe_int (pa_cons pe_int pa_nil))) (pa_cons (pe_tup (pa_cons pe_int (pa_cons pe_int pa_nil))) pa_nil)))) (pa_cons (pe_lst (pa_cons (pe_tup (pa_cons pe_int (pa_cons (pe_tup (pa_cons pe_int pa_nil)) pa_nil))) pa_nil)) pa_nil))))))))
    (pss_cons (ps_if (pt_cmpR op_lt (pe_op op_mod (pv 0) pe_int) pe_int (nomark _))
      (pss_one (ps_ret (pe_ix (ix_K (K := K) rfl) (pv 2) (pe_op op_mod (pv 0) pe_int) (fun _ _ => rfl))))
      pss_nil)
    (pss_cons (ps_set (i := 3) sc_law_bad_ties.nd rfl (Or.inl rfl) (pe_slice (sl_K (K := K) rfl) (pe_lst (pa_cons (pe_tup (pa_cons pe_int (pa_cons pe_int pa_nil))) (pa_cons (pe_tup (pa_cons pe_int (pa_cons pe_int pa_nil))) (pa_cons (pe_tup (pa_cons pe_int (pa_cons pe_int pa_nil))) (pa_cons (pe_tup (pa_cons pe_int (pa_cons pe_int pa_nil))) (pa_cons (pe_tup (pa_cons pe_int (pa_cons pe_int pa_nil))) (pa_cons (pe_tup (pa_cons pe_int (pa_cons pe_int pa_nil))) pa_nil))))))) po_none (po_some (pe_op op_uAdd pe_int (pe_op op_mod (pv 1) pe_int)))))
    (pss_cons (ps_set (i := 4) sc_law_bad_ties.nd rfl (Or.inl rfl) (pe_ix (ix_K (K := K) rfl) (pe_lst (pa_cons pe_non (pa_cons (pe_tup (pa_cons pe_int (pa_cons pe_int pa_nil))) (pa_cons (pe_tup (pa_cons pe_int (pa_cons pe_int pa_nil))) (pa_cons (pe_tup (pa_cons pe_int (pa_cons (pe_op op_uAdd pe_int (pv 1)) pa_nil))) (pa_cons (pe_tup (pa_cons pe_bl (pa_cons pe_int pa_nil))) (pa_cons (pe_tup (pa_cons pe_int (pa_cons pe_non pa_nil))) (pa_cons (pe_lst (pa_cons pe_int (pa_cons pe_int pa_nil))) (pa_cons (pe_tup (pa_cons (pe_op op_sub (pe_un un_neg pe_int) (pv 1)) (pa_cons pe_int pa_nil))) pa_nil))))))))) (pe_op op_sub (pe_op op_mod (pv 0) pe_int) pe_int) (fun _ _ => rfl)))
    (pss_cons (ps_asg (pv 4) (pg_sub (pv 3) (pe_op op_mod (pe_op op_fdivW (pv 0) pe_int) (pe_callB (call_lenK (K := K) (w := w) rfl rfl) rfl T.len bo_len (pa_cons (pv 3) pa_nil))) set_list))
    (pss_one (ps_ret (pv 3))))))))), ?_⟩
  have r0 : 0 ≤ wh % 25 ∧ wh % 25 < 25 := by omega
  have md : ∀ {σ : L2.St} {H : Hp}, σ[0]? = some (some (.int wh)) → EvD (tOp (rI (fun _ j => 0 < j) fun i j => .int (i % j)) (tVar 0) (tC (.int 25))) σ H (.int (wh % 25)) := fun {σ H} h => d_op (d_vI h) d_int (rd_i (by decide : (0 : Int) < 25))
  refine q_letH (ds := bad17a) (h_lst (by unfold bad17a; walk_at "th") (by decide)) fun v2 H1 e1 h1 => ?_
  refine q_letH (ds := bad17a ++ bad17b) (h_cat (h_var rfl h1) (h_lst (by unfold bad17b; walk_at "th") (by decide)) (by decide)) fun v3 H2 e2 h2 => ?_
  have e02 := e1.trans e2
  refine q_when (b := decide (wh % 25 < 17)) (t_test (d_op (md rfl) d_int rd_b0)) (fun hb H3 e3 => ?_) fun hb H3 e3 => ?_
  · have hlt : (wh % 25).toNat < (bad17a ++ bad17b).length := by
      have := of_decide_eq_true hb
      show (wh % 25).toNat < 17
      omega
    have em : ((wh % 25).toNat : Int) = wh % 25 := by omega
    exact (h_ix (K := K) (k := (wh % 25).toNat) (h_var rfl (h2.ex e3)) (EvR.is (md rfl) (by rw [em])) (List.getElem?_eq_getElem hlt)) H3 (Ex.refl H3) _ fun v H4 e4 hv => k v H4 ((e02.trans e3).trans e4) (bad17_T _ (List.getElem_mem hlt) hv)
  have hb17 := of_decide_eq_false hb
  have nb : 1 ≤ 1 + mo % 6 ∧ 1 + mo % 6 ≤ 6 := by omega
  have en : ((1 + mo % 6).toNat : Int) = 1 + mo % 6 := by omega
  refine q_let (n := true) (d := .list (pL (six5.take (1 + mo % 6).toNat))) (EvR.is (d_slice (ds := pL six5) (lo := none) (hi := some (((1 + mo % 6).toNat : Nat) : Int)) (show EvD _ _ _ (.list (pL six5)) by walk_at "clo") dp_none (dp_some (EvR.is (d_op d_int (d_op (d_vI rfl) d_int (rd_i (by decide : (0 : Int) < 6))) rd_addI) (by rw [en])))) (congrArg PyData.list (cut_to _))) fun v4 H4 e4 h4 fr => ?_
  obtain ⟨ta, rfl, hta⟩ := fr rfl
  obtain ⟨ta2, xs, eq, hxs, hA⟩ := h4.lst_inv
  cases eq
  have ln : (six5.take (1 + mo % 6).toNat).length = (1 + mo % 6).toNat := by
    rw [List.length_take]
    show min _ 6 = _
    omega
  generalize hqs : six5.take (1 + mo % 6).toNat = qs at hA ln
  have lq : (pL qs).length = qs.length := List.length_map _
  have hx : xs.length = qs.length := by rw [hA.length, lq]
  have hta0 : H ta = none := fresh_back (e02.trans e3) hta
  -- the strange one
  have kb : ((wh % 25 - 17).toNat : Int) = wh % 25 - 17 := by omega
  have hlt : (wh % 25 - 17).toNat < (sd5 mo).length := by
    show (wh % 25 - 17).toNat < 8
    omega
  obtain ⟨tf, fl⟩ := sd5_ok m0 _ (List.getElem_mem hlt)
  have hget : (sd5 mo)[(wh % 25 - 17).toNat]? = some ((sd5 mo)[(wh % 25 - 17).toNat]) := List.getElem?_eq_getElem hlt
  have tup2 : ∀ {σ : L2.St} {H : Hp} {ta tb : TE} {d e : PyData}, EvD ta σ H d → EvD tb σ H e → EvR true (tTup (tCons ta (tCons tb tNil))) σ H (.tuple [d, e]) := fun h1 h2 => d_tup (da_cons h1 (da_cons h2 da_nil)) (by show 2 ≤ 1000000; decide)
  refine q_set (n_ix (K := K) (a := ta) (ds := sd5 mo) (n_non d_non (n_new hxs (tup2 d_int d_int) (n_new hxs (tup2 d_int d_int) (n_new hxs (tup2 d_int (d_op d_int (d_vI rfl) rd_addI)) (n_new hxs (tup2 d_bl d_int) (n_new hxs (tup2 d_int d_non) (n_new hxs (d_lst (ds := iL [0, 1]) (da_cons d_int (da_cons d_int da_nil)) (by show 2 ≤ 1000000; decide)) (n_new hxs (tup2 (d_op (d_neg d_int) (d_vI rfl) rd_i0) d_int) n_nil)))))))) (by show 8 ≤ 1000; decide) (EvR.is (d_op (md rfl) d_int rd_i0) (by rw [kb])) hget fun v5 H5 e5 h5 n5 => ?_)
  generalize (sd5 mo)[(wh % 25 - 17).toNat] = sd at tf fl h5
  have hxs5 := e5 _ _ hxs
  have hA5 := hA.ex e5
  have h45 : Dt H5 (.ref ta) (.list (pL qs)) := .lst hxs5 hA5
  have j0 := Int.emod_nonneg (wh / 25) (show ((qs.length : Nat) : Int) ≠ 0 by omega)
  have j1 := Int.emod_lt_of_pos (wh / 25) (show 0 < ((qs.length : Nat) : Int) by omega)
  have jx : ixN xs.length (wh / 25 % ((qs.length : Nat) : Int)) = some (wh / 25 % ((qs.length : Nat) : Int)).toNat := by
    unfold ixN
    rw [if_pos j0, if_pos (by rw [hx]; exact j1)]
  refine ⟨_, rfl, _, rfl, (show EvD (tOp (rI (fun _ j => 0 < j) fun i j => .int (i % j)) (tOp (rI CDivW fun i j => .int (i / j)) (tVar 0) (tC (.int 25))) (tCB (rULen K w) (tCons (tVar 3) tNil))) [some (.int wh), some (.int mo), some v3, some (.ref ta), some v5] H5 (.int (wh / 25 % ((qs.length : Nat) : Int))) from d_op (d_op (d_vI rfl) d_int (rd_i (divW (by decide) (by decide)))) ((d_cb1 (d_var rfl h45) rc_lenL).is (by rw [lq])) (rd_i (by omega : 0 < ((qs.length : Nat) : Int)))) H5 (Ex.refl H5) _ fun u H6 e6 hu _ => ?_⟩
  cases hu.int_inv
  have hxs6 := e6 _ _ hxs5
  refine ⟨ta, xs, _, _, rfl, rfl, hxs6, jx, ?_⟩
  have e36 : Ex H3 H6 := (e4.trans e5).trans e6
  refine ⟨_, rfl, k (.ref ta) _ ((e02.trans e3).trans (Ex.mut e36 hta)) ?_⟩
  have hv6 := h5.ex e6
  have dv : Dt (upd H6 ta (.lst (xs.set (wh / 25 % ((qs.length : Nat) : Int)).toNat v5))) v5 sd := by
    rcases fl with f | ⟨ns, rfl⟩
    · exact Dt.updF hxs6 f hv6
    · obtain ⟨p, ys, rfl, hp, hy⟩ := hv6.lst_inv
      exact Dt.updL hxs6 (fun z => n5 (by rw [z])) (flat_iL ns) (.lst hp hy)
  refine .some_ (ds := (pL qs).set (wh / 25 % ((qs.length : Nat) : Int)).toNat sd) (.lst upd_same (dt_set ((hA5.ex e6).updF hxs6 (flat_pL qs)) dv)) (by rw [List.length_set, lq]; omega) ?_
  rw [List.all_eq_false]
  have jl : (wh / 25 % ((qs.length : Nat) : Int)).toNat < (pL qs).length := by rw [lq]; omega
  exact ⟨sd, List.mem_of_getElem? (i := (wh / 25 % ((qs.length : Nat) : Int)).toNat) (List.getElem?_set_self jl), by rw [tf]; decide⟩
end
end SC

/-! PZ: law 5. -/
namespace SC
open PySem PySem.Spec PyProof.Rows L2 Evl
local macro_rules | `(tactic| walk_at "rd") => `(tactic| first
  | with_reducible exact rd_addI | with_reducible exact rd_i0 | with_reducible exact rd_b0
  | with_reducible exact rd_eqI | with_reducible exact rd_neI | with_reducible exact rd_eqL | with_reducible exact rd_neL | with_reducible exact rd_eqB | with_reducible exact rd_neB
  | with_reducible exact rd_eqP | with_reducible exact rd_neP | with_reducible exact rd_neQ
  | with_reducible exact rd_inI | with_reducible exact rd_notInI | with_reducible exact rd_inP | with_reducible exact rd_notInP
  | with_reducible refine rd_i ?_)
local macro_rules | `(tactic| walk_at "d") => `(tactic| repeat' first
  | with_reducible exact d_int | with_reducible exact d_bl | with_reducible exact d_non | with_reducible exact d_str
  | ((with_reducible apply d_vI); exact rfl) | ((with_reducible apply d_vB); exact rfl) | exact d_var rfl (by assumption)
  | with_reducible apply d_op | with_reducible exact da_nil | with_reducible apply da_cons | walk_at "rd" | with_reducible exact dp_none | with_reducible apply dp_some | with_reducible exact t_yes)

theorem bo_ValueError : bootBuiltins "ValueError" = some (.type "ValueError") := by decide +kernel
/-- what is known of an own error's class C -/
structure ErrC (K : PySem.W.Frag) (CE CBadPlaces CBadTies CBadMany C : Addr) (p t m : Bool) : Prop where
  e : ExcC K C
  x : PySem.W.exmOne K (.ref C) (.ref CE) = some true
  kp : PySem.W.kitOne K (.ref C) (.ref CBadPlaces) = some p
  kt : PySem.W.kitOne K (.ref C) (.ref CBadTies) = some t
  km : PySem.W.kitOne K (.ref C) (.ref CBadMany) = some m
  kv : PySem.W.kitOne K (.ref C) (.type "ValueError") = some true
def tSuite5 (K : PySem.W.Frag) (CP CT CM : Addr) : Addr → Value → Option Addr → TS := fun a cls d => tSeq (tAsg (tLst (tCons (tCB (rIsE2 K cls d a) (tCons (tVar 5) (tCons (tC (.ref CP)) tNil))) (tCons (tCB (rIsE2 K cls d a) (tCons (tVar 5) (tCons (tC (.ref CT)) tNil))) (tCons (tCB (rIsE2 K cls d a) (tCons (tVar 5) (tCons (tC (.ref CM)) tNil))) tNil)))) (gName 6))
  (tRet (tOp rUAdd (tVar 6) (tLst (tCons (tCB (rIsE2 K cls d a) (tCons (tVar 5) (tCons (tC (.ty "ValueError")) tNil))) tNil))))
section
variable {K : PySem.W.Frag} {CE CP CT CM C a : Addr} {p t m b : Bool} {σ : L2.St} {H : Hp}
theorem d_isE {c : V} {cv : Value} (h5 : σ[5]? = some (some (.ref a))) (hc : ∀ u, RelV c u → u = cv) (X : ExcC K C) (hk : PySem.W.kitOne K (.ref C) cv = some b) : EvD (tCB (rIsE2 K (.ref C) none a) (tCons (tVar 5) (tCons (tC c) tNil))) σ H (.bool b) := fun H1 e1 Q q => ⟨_, h5, c, cv, b, C, rfl, hc, rfl, rfl, X, hk, q _ H1 (Ex.refl H1) (.bl b) Fr.no⟩
theorem catch5 (X : ErrC K CE CP CT CM C p t m) {x0 x1 x2 x3 x4 x5 x6 : Option V} {D : Ends} (k : ∀ v H', Ex H H' → Dt H' v (.list (bL [p, t, m, true])) → D.rt v H') : wAs K (.ref CE) 5 (tSuite5 K CP CT CM) (fun _ _ _ _ => False) D (.ref C) none [x0, x1, x2, x3, x4, x5, x6] H := by
  refine ⟨true, X.x, fun _ a _ => ?_, fun h => nomatch h⟩
  have r : ∀ {D : Addr} {u : Value}, RelV (.ref D) u → u = .ref D := fun h => h
  have rt : ∀ {u : Value}, RelV (.ty "ValueError") u → u = .type "ValueError" := fun h => h
  refine q_let (n := true) (d := .list (bL [p, t, m])) (d_lst (ds := bL [p, t, m]) (da_cons (d_isE rfl (fun u h => r h) X.e X.kp) (da_cons (d_isE rfl (fun u h => r h) X.e X.kt) (da_cons (d_isE rfl (fun u h => r h) X.e X.km) da_nil))) (by show 3 ≤ 1000000; decide)) fun v H1 e1 hv _ => ?_
  exact r_d (n := true) (d := .list (bL [p, t, m] ++ bL [true])) (d_op (d_var rfl hv) (d_lst (ds := bL [true]) (da_cons (d_isE rfl (fun u h => rt h) X.e X.kv) da_nil) (by show 1 ≤ 1000000; decide)).weak (rd_addL (by show 3 + 1 ≤ 1000000; decide))) fun v H2 e2 hv _ => k v H2 (e1.trans e2) hv
end
section
variable {σ : L2.St} {H : Hp} {n : Bool} {te : TE} {t : TA} {d : PyData}
theorem callS_c {sp : Sp} {E : L2.St → XK} {c : V} {Q : VK} (h : t σ H fun vs H1 => sp (c :: vs) H1 Q (E σ)) : tCallS sp E (tCons (tC c) t) σ H Q := h
theorem args_e (h : EvR n te σ H d) {Q : List V → Hp → Prop} (k : ∀ v H1, Ex H H1 → Dt H1 v d → t σ H1 fun vs H2 => Q (v :: vs) H2) : tCons te t σ H Q := h H (Ex.refl H) _ fun v H1 e hv _ => k v H1 e hv
end
def s9 (mo : Int) : List TH := [.dt .none, .dt (.str "2"), .dt (.bool true), .dt (.bool false), .dt (.list (iL [2])), .dt (.tuple (iL [2])), .dct, .dt (.int 0), .dt (.int (-1 - mo))]
theorem s9_M {H : Hp} {v : V} {mo : Int} (h : 0 ≤ mo) : ∀ th ∈ s9 mo, Th H v th → BadM H v := by
  intro th hm hv
  simp only [s9, List.mem_cons, List.not_mem_nil, or_false] at hm
  rcases hm with z | z | z | z | z | z | z | z | z <;> (subst z; cases hv; rename_i h0; first | exact .inl (.dct h0) | (cases h0; first | exact .inl .non | exact .inl (.str _) | exact .inl (.bl _) | exact .inl (.lst (by assumption)) | exact .inl (.tup (by assumption)) | exact .inr ⟨_, rfl, by omega⟩))
theorem BadM.p {H : Hp} {v : V} (h : BadM H v) : BadP H v := h.imp id fun ⟨i, e, hi⟩ => ⟨i, e, by omega⟩
theorem s11_P {H : Hp} {v : V} {mo : Int} (h : 0 ≤ mo) : ∀ th ∈ s9 mo ++ [.dt (.int 61), .dt (.int (61 + mo))], Th H v th → BadP H v := by
  intro th hm hv
  rcases List.mem_append.mp hm with q | q
  · exact (s9_M h th q hv).p
  · simp only [List.mem_cons, List.not_mem_nil, or_false] at q
    rcases q with z | z <;> (subst z; cases hv; rename_i h0; cases h0; exact .inr ⟨_, rfl, by omega⟩)
def dueL (k : Int) : List Bool := [decide (k = 0), decide (k = 1), decide (k = 2), true]
def RTold5 (ds : List PyData) (d : PyData) : Prop := ∃ k wh mo : Int, ds = [.int k, .int wh, .int mo] ∧ 0 ≤ k ∧ k ≤ 2 ∧ 0 ≤ wh ∧ 0 ≤ mo ∧ d = .list (bL (dueL k))
section
variable {P : Program} {w : World} {K : PySem.W.Frag} {mg : Str → Option Value} {base : Heap} {A : Ans} {CE CBadPlaces CBadTies CBadMany : Addr}
theorem ok_law_told (T : Bl mg) (gVE : mg "ValueError" = none) (g_CrowdError : mg "CrowdError" = some (.ref CE)) (g_BadPlaces : mg "BadPlaces" = some (.ref CBadPlaces)) (g_BadTies : mg "BadTies" = some (.ref CBadTies)) (g_BadMany : mg "BadMany" = some (.ref CBadMany))
    (XP : ErrC K CE CBadPlaces CBadTies CBadMany CBadPlaces true false false) (XT : ErrC K CE CBadPlaces CBadTies CBadMany CBadTies false true false) (XM : ErrC K CE CBadPlaces CBadTies CBadMany CBadMany false false true)
    (c_law_bad_ties : Cal P w K mg base CX0 1 "_law_bad_ties" ["_law_which", "_law_more"] spBadTies)
    (x_most : Cal P w K mg base (L2.CX P w) 3 "most" ["places", "many"] (spX fun vs H C => ∃ v u, vs = [v, u] ∧ ((BadM H v ∧ C = CBadPlaces) ∨ (∃ p : Int, v = .int p ∧ 1 ≤ p ∧ BadM H u ∧ C = CBadMany))))
    (x_fullest : Cal P w K mg base (L2.CX P w) 3 "fullest" ["places", "many"] (spX fun vs H C => ∃ v u, vs = [v, u] ∧ ((BadP H v ∧ C = CBadPlaces) ∨ (∃ p : Int, v = .int p ∧ 1 ≤ p ∧ p ≤ 60 ∧ BadM H u ∧ C = CBadMany))))
    (x_parted : Cal P w K mg base (L2.CX P w) 4 "parted" ["places", "ties"] (spX fun vs H C => ∃ v u, vs = [v, u] ∧ ((BadP H v ∧ C = CBadPlaces) ∨ (v = .int 4 ∧ BadT H u ∧ C = CBadTies))))
    (x_told : Cal P w K mg base (L2.CX P w) 4 "told" ["places", "ties", "many"] (spX fun vs H C => ∃ v u z, vs = [v, u, z] ∧ (((BadP H v ∧ C = CBadPlaces) ∨ (v = .int 4 ∧ BadT H u ∧ C = CBadTies)) ∨ (v = .int 4 ∧ Dt H u (.list (pL [(0, 1)])) ∧ BadM H z ∧ C = CBadMany))))
    (x_law_with_places : Cal P w K mg base (L2.CX P w) 5 "_law_with_places" ["_law_door", "_law_places"] (spX fun vs H C => ∃ (d : Int) (v : V), vs = [.int d, v] ∧ BadP H v ∧ C = CBadPlaces))
    (F : FDef K mg "_law_told" s_law_told) : Cal P w K mg base CX0 6 "_law_told" ["_law_kind", "_law_which", "_law_more"] (spF false RTold5) := by
  refine Cal.ofR F sc_law_told (fun ds d ⟨k, wh, mo, e, _⟩ => by rw [e] <;> rfl) (fun _ _ _ _ _ _ us hl => match us, hl with | [_, _, _], _ => rfl) (fun f cdv A' outer s H E hr vs ds d Q hv hR k => ?_)
  obtain ⟨kd, wh, mo, rfl, k0, k2, w0, m0, rfl⟩ := hR
  obtain ⟨v1, v2, v3, rfl, a1, a2, a3⟩ := hv.three
  cases a1.int_inv
  cases a2.int_inv
  cases a3.int_inv
  refine ⟨_, (pss_cons (ps_set (i := 3) sc_law_told.nd rfl (Or.inl rfl) (pe_lst (pa_cons pe_non (pa_cons pe_str (pa_cons pe_bl (pa_cons pe_bl (pa_cons (pe_lst (pa_cons pe_int pa_nil)) (pa_cons (pe_tup (pa_cons pe_int pa_nil)) (pa_cons pe_dnewK (pa_cons pe_int (pa_cons (pe_op op_sub (pe_un un_neg pe_int) (pv 2)) pa_nil)))))))))))
    (pss_cons (ps_try_as (i := 5) (Wout := fun _ _ _ _ => False) rfl rfl sc_law_told.nd rfl rfl ⟨rfl, by decide, Or.inl g_CrowdError⟩ takes0 (fun W pn xe tk _ =>
      (pss_one (ps_if (PW.pt (pw_and (pt_cmpR (op_eqK (K := K) rfl (hu64 hr)) (pv 0) pe_int (nomark _)) (pw_and1 (pt_cmpR (op_eqK (K := K) rfl (hu64 hr)) (pe_op op_mod (pv 1) pe_int) pe_int (nomark _)))))
        (pss_one (ps_expr (pe_calS x_most (hr.mono (by decide)) rfl (fun σ => passAt tk σ) (pa_cons (pe_ix (ix_K (K := K) rfl) (pv 3) (pe_op op_mod (pe_op op_fdivW (pv 1) pe_int) pe_int) (fun _ _ => rfl)) (pa_cons pe_int pa_nil)))))
        (pss_one (ps_if (pt_cmpR (op_eqK (K := K) rfl (hu64 hr)) (pv 0) pe_int (nomark _))
          (pss_one (ps_expr (pe_calS x_law_with_places (hr.mono (by decide)) rfl (fun σ => passAt tk σ) (pa_cons (pe_op op_mod (pv 1) pe_int) (pa_cons (pe_ix (ix_K (K := K) rfl) (pe_op op_uAdd (pv 3) (pe_lst (pa_cons pe_int (pa_cons (pe_op op_uAdd pe_int (pv 2)) pa_nil)))) (pe_op op_mod (pe_op op_fdivW (pv 1) pe_int) pe_int) (fun _ _ => rfl)) pa_nil)))))
          (pss_one (ps_if (pt_cmpR (op_eqK (K := K) rfl (hu64 hr)) (pv 0) pe_int (nomark _))
            (pss_cons (ps_set (i := 4) sc_law_told.nd rfl (Or.inl rfl) (pe_cal c_law_bad_ties (hr.mono (by decide)) rfl pass0 (pa_cons (pe_op op_fdivW (pv 1) pe_int) (pa_cons (pv 2) pa_nil))))
            (pss_one (ps_expr (pe_ifExp (pt_cmpR (op_eqK (K := K) rfl (hu64 hr)) (pe_op op_mod (pv 1) pe_int) pe_int (nomark _)) (pe_calS x_told (hr.mono (by decide)) rfl (fun σ => passAt tk σ) (pa_cons pe_int (pa_cons (pv 4) (pa_cons pe_int pa_nil)))) (pe_calS x_parted (hr.mono (by decide)) rfl (fun σ => passAt tk σ) (pa_cons pe_int (pa_cons (pv 4) pa_nil)))))))
            (pss_one (ps_if (pt_cmpR (op_eqK (K := K) rfl (hu64 hr)) (pe_op op_mod (pv 1) pe_int) pe_int (nomark _))
              (pss_one (ps_expr (pe_calS x_most (hr.mono (by decide)) rfl (fun σ => passAt tk σ) (pa_cons (pe_op op_uAdd pe_int (pv 2)) (pa_cons (pe_ix (ix_K (K := K) rfl) (pv 3) (pe_op op_mod (pe_op op_fdivW (pv 1) pe_int) pe_int) (fun _ _ => rfl)) pa_nil)))))
              (pss_cons (ps_set (i := 4) sc_law_told.nd rfl (Or.inl rfl) (pe_ix (ix_K (K := K) rfl) (pv 3) (pe_op op_mod (pe_op op_fdivW (pv 1) pe_int) pe_int) (fun _ _ => rfl)))
              (pss_one (ps_expr (pe_ifExp (pt_cmpR (op_eqK (K := K) rfl (hu64 hr)) (pe_op op_mod (pv 1) pe_int) pe_int (nomark _)) (pe_calS x_fullest (hr.mono (by decide)) rfl (fun σ => passAt tk σ) (pa_cons (pe_op op_uAdd pe_int (pe_op op_mod (pv 2) pe_int)) (pa_cons (pv 4) pa_nil))) (pe_calS x_told (hr.mono (by decide)) rfl (fun σ => passAt tk σ) (pa_cons pe_int (pa_cons (pe_lst (pa_cons (pe_tup (pa_cons pe_int (pa_cons pe_int pa_nil))) pa_nil)) (pa_cons (pv 4) pa_nil)))))))))))))))))
      (fun a oe cls d pn hz hf => (pss_cons (ps_set (i := 6) sc_law_told.nd rfl (Or.inl rfl) (pe_lst (pa_cons (pe_callB (call_isE2 hz hf) rfl T.isinstance bo_isinstance (pa_cons (pv 5) (pa_cons (pe_glob (v := .ref CBadPlaces) rfl g_BadPlaces rfl) pa_nil))) (pa_cons (pe_callB (call_isE2 hz hf) rfl T.isinstance bo_isinstance (pa_cons (pv 5) (pa_cons (pe_glob (v := .ref CBadTies) rfl g_BadTies rfl) pa_nil))) (pa_cons (pe_callB (call_isE2 hz hf) rfl T.isinstance bo_isinstance (pa_cons (pv 5) (pa_cons (pe_glob (v := .ref CBadMany) rfl g_BadMany rfl) pa_nil))) pa_nil)))))
      (pss_one (ps_ret (pe_op op_uAdd (pv 6) (pe_lst (pa_cons (pe_callB (call_isE2 hz hf) rfl T.isinstance bo_isinstance (pa_cons (pv 5) (pa_cons (pe_bltn (v := .ty "ValueError") rfl gVE bo_ValueError rfl) pa_nil))) pa_nil))))))))
    (pss_one (ps_ret (pe_lst pa_nil))))), ?_⟩
  refine q_letH (ds := s9 mo) (h_lst (h_cons (h_dt d_non) (h_cons (h_dt d_str) (h_cons (h_dt d_bl) (h_cons (h_dt d_bl) (h_cons (h_dt (d_lst (ds := iL [2]) (da_cons d_int da_nil) (by decide))) (h_cons (h_dt (d_tup (ds := iL [2]) (da_cons d_int da_nil) (by decide))) (h_cons h_dct (h_cons (h_dt d_int) (h_cons (h_dt (d_op (d_neg d_int) (d_vI rfl) rd_i0)) h_nil))))))))) (by show 9 ≤ 1000; decide)) fun vs1 H1 e1 h1 => ?_
  have md : ∀ {σ : L2.St} {H : Hp} (j : Int), 0 < j → σ[1]? = some (some (.int wh)) → EvD (tOp (rI (fun _ j => 0 < j) fun i j => .int (i % j)) (tVar 1) (tC (.int j))) σ H (.int (wh % j)) := fun {σ H} j hj h => d_op (d_vI h) d_int (rd_i hj)
  have ix : ∀ {σ : L2.St} {H : Hp} (i j : Int), 0 < i → i < 1000 → 0 < j → σ[1]? = some (some (.int wh)) → EvD (tOp (rI (fun _ j => 0 < j) fun i j => .int (i % j)) (tOp (rI CDivW fun i j => .int (i / j)) (tVar 1) (tC (.int i))) (tC (.int j))) σ H (.int (((wh / i % j).toNat : Nat) : Int)) := fun {σ H} i j hi hi2 hj h => by
    have := Int.emod_nonneg (wh / i) (show j ≠ 0 by omega)
    have e : (((wh / i % j).toNat : Nat) : Int) = wh / i % j := by omega
    rw [e]
    exact d_op (d_op (d_vI h) d_int (rd_i (divW hi (by omega)))) d_int (rd_i hj)
  have lt9 : ∀ i : Int, (wh / i % 9).toNat < (s9 mo).length := fun i => by
    show (wh / i % 9).toNat < 9
    omega
  have cat : ∀ {C : Addr} {p t m : Bool}, ErrC K CE CBadPlaces CBadTies CBadMany C p t m → dueL kd = [p, t, m, true] → ∀ {x0 x1 x2 x3 x4 x5 x6 : Option V} {H' : Hp} {nx bk ct : L2.St → Hp → Prop}, Ex H1 H' → wAs K (.ref CE) 5 (tSuite5 K CBadPlaces CBadTies CBadMany) (fun _ _ _ _ => False) { nx := nx, rt := Q, bk := bk, ct := ct } (.ref C) none [x0, x1, x2, x3, x4, x5, x6] H' := fun {C p t m} X hp {x0 x1 x2 x3 x4 x5 x6 H' nx bk ct} e => catch5 X fun v H2 e2 hv => k v H2 ((e1.trans e).trans e2) (by rw [hp]; exact hv) Fr.no
  refine s_if (b := decide (kd = 0) && decide (wh % 4 = 3)) (et_and (t_test (d_op (d_vI rfl) d_int rd_eqI)) fun _ => t_test (d_op (md 4 (by decide) rfl) d_int rd_eqI)) (fun hb H2 e2 => ?_) fun hb H2 e2 => ?_
  · have kz : kd = 0 := of_decide_eq_true (Bool.and_eq_true_iff.mp hb).1
    subst kz
    exact (h_ix (K := K) (h_var rfl (h1.ex e2)) (ix 4 9 (by decide) (by decide) (by decide) rfl) (List.getElem?_eq_getElem (lt9 4))) H2 (Ex.refl H2) _ fun v H3 e3 hv => ⟨_, ⟨v, .int 0, rfl, .inl ⟨s9_M m0 _ (List.getElem_mem (lt9 4)) hv, rfl⟩⟩, fun H' e' => cat XP rfl ((e2.trans e3).trans e')⟩
  refine s_if (b := decide (kd = 0)) (t_test (d_op (d_vI rfl) d_int rd_eqI)) (fun hb3 H3 e3 => ?_) fun hb3 H3 e3 => ?_
  · have kz : kd = 0 := of_decide_eq_true hb3
    subst kz
    have lt11 : (wh / 4 % 11).toNat < (s9 mo ++ [TH.dt (.int 61), TH.dt (.int (61 + mo))]).length := by
      show (wh / 4 % 11).toNat < 11
      omega
    refine (md 4 (by decide) rfl) H3 (Ex.refl H3) _ fun u H4 e4 hu _ => ?_
    cases hu.int_inv
    exact (h_ix (K := K) (h_cat (h_var rfl (h1.ex ((e2.trans e3).trans e4))) (h_lst (ds := [TH.dt (.int 61), TH.dt (.int (61 + mo))]) (h_cons (h_dt d_int) (h_cons (h_dt (d_op d_int (d_vI rfl) rd_addI)) h_nil)) (by show 2 ≤ 1000; decide)) (by show 9 + 2 ≤ 1000; decide)) (ix 4 11 (by decide) (by decide) (by decide) rfl) (List.getElem?_eq_getElem lt11)) H4 (Ex.refl H4) _ fun v H5 e5 hv => ⟨_, ⟨_, v, rfl, s11_P m0 _ (List.getElem_mem lt11) hv, rfl⟩, fun H' e' => cat XP rfl ((((e2.trans e3).trans e4).trans e5).trans e')⟩
  have k0' : kd ≠ 0 := of_decide_eq_false hb3
  refine s_if (b := decide (kd = 1)) (t_test (d_op (d_vI rfl) d_int rd_eqI)) (fun hb4 H4 e4 => ?_) fun hb4 H4 e4 => ?_
  · have kz : kd = 1 := of_decide_eq_true hb4
    subst kz
    refine q_set ?_
    refine (show EvD (tOp (rI CDivW fun i j => .int (i / j)) (tVar 1) (tC (.int 2))) _ H4 (.int (wh / 2)) from d_op (d_vI rfl) d_int (rd_i div2)) H4 (Ex.refl H4) _ fun u H5 e5 hu _ => ?_
    cases hu.int_inv
    refine ⟨_, rfl, wh / 2, mo, rfl, by omega, m0, fun v H6 e6 hv => ?_⟩
    refine (t_test (b := decide (wh % 2 = 0)) (d_op (md 2 (by decide) rfl) d_int rd_eqI)) H6 (Ex.refl H6) _ fun H7 e7 => ?_
    have e17 := (((e2.trans e3).trans e4).trans e5).trans (e6.trans e7)
    cases decide (wh % 2 = 0) with
    | true => exact (if_pos rfl).mpr ⟨_, rfl, _, ⟨.int 4, v, .int 0, rfl, .inl (.inr ⟨rfl, hv.ex e7, rfl⟩)⟩, fun H' e' => cat XT rfl (e17.trans e')⟩
    | false => exact (if_neg (by decide)).mpr ⟨_, rfl, _, ⟨.int 4, v, rfl, .inr ⟨rfl, hv.ex e7, rfl⟩⟩, fun H' e' => cat XT rfl (e17.trans e')⟩
  have kz : kd = 2 := by have := of_decide_eq_false hb4; omega
  subst kz
  have e14 := (e2.trans e3).trans e4
  refine s_if (b := decide (wh % 3 = 0)) (t_test (d_op (md 3 (by decide) rfl) d_int rd_eqI)) (fun hb5 H5 e5 => ?_) fun hb5 H5 e5 => ?_
  · refine (show EvD (tOp rUAdd (tC (.int 1)) (tVar 2)) _ H5 (.int (1 + mo)) from d_op d_int (d_vI rfl) rd_addI) H5 (Ex.refl H5) _ fun u H6 e6 hu _ => ?_
    cases hu.int_inv
    exact (h_ix (K := K) (h_var rfl (h1.ex ((e14.trans e5).trans e6))) (ix 3 9 (by decide) (by decide) (by decide) rfl) (List.getElem?_eq_getElem (lt9 3))) H6 (Ex.refl H6) _ fun v H7 e7 hv => ⟨_, ⟨.int (1 + mo), v, rfl, .inr ⟨_, rfl, by omega, s9_M m0 _ (List.getElem_mem (lt9 3)) hv, rfl⟩⟩, fun H' e' => cat XM rfl (((e14.trans e5).trans (e6.trans e7)).trans e')⟩
  · refine q_set ((h_ix (K := K) (h_var rfl (h1.ex (e14.trans e5))) (ix 3 9 (by decide) (by decide) (by decide) rfl) (List.getElem?_eq_getElem (lt9 3))) H5 (Ex.refl H5) _ fun v H6 e6 hv => ?_)
    have hb6 := s9_M m0 _ (List.getElem_mem (lt9 3)) hv
    refine (t_test (b := decide (wh % 3 = 1)) (d_op (md 3 (by decide) rfl) d_int rd_eqI)) H6 (Ex.refl H6) _ fun H7 e7 => ?_
    have e17 := (e14.trans e5).trans (e6.trans e7)
    cases decide (wh % 3 = 1) with
    | true =>
      refine (if_pos rfl).mpr ((show EvD (tOp rUAdd (tC (.int 1)) (tOp (rI (fun _ j => 0 < j) fun i j => .int (i % j)) (tVar 2) (tC (.int 60)))) _ H7 (.int (1 + mo % 60)) from d_op d_int (d_op (d_vI rfl) d_int (rd_i (by decide : (0 : Int) < 60))) rd_addI) H7 (Ex.refl H7) _ fun u H8 e8 hu _ => ?_)
      cases hu.int_inv
      exact ⟨_, rfl, _, ⟨.int (1 + mo % 60), v, rfl, .inr ⟨_, rfl, by omega, by omega, hb6.ex (e7.trans e8), rfl⟩⟩, fun H' e' => cat XM rfl ((e17.trans e8).trans e')⟩
    | false =>
      refine (if_neg (by decide)).mpr (callS_c (args_e (n := true) (d := .list (pL [(0, 1)])) (d_lst (ds := [pD (0, 1)]) (da_cons (d_tup (ds := [.int 0, .int 1]) (da_cons d_int (da_cons d_int da_nil)) (by show 2 ≤ 1000000; decide)).weak da_nil) (by show 1 ≤ 1000000; decide)) fun u H8 e8 hu => ?_))
      exact ⟨_, rfl, _, ⟨.int 4, u, v, rfl, .inr ⟨rfl, hu, hb6.ex (e7.trans e8), rfl⟩⟩, fun H' e' => cat XM rfl ((e17.trans e8).trans e')⟩
theorem dw_script {σ : L2.St} {H : Hp} {i : Nat} {a : Addr} {ns : List Int} (hv : σ[i]? = some (some (.ref a))) (hS : SqL K H a (ns.map V.int)) : DW (iList K (tVar i)) σ H (ns.map PyData.int) := fun H1 e1 R k => ⟨_, hv, by
  refine ⟨a, rfl, ⟨_, ex_l e1 hS⟩, k _ H1 (Ex.refl H1) ?_⟩
  rw [List.length_map, show ns.length = (ns.map V.int).length from (List.length_map _).symm]
  exact walk_list.mono (fun H' g => ex_l (e1.trans g) hS) fun i H' x H'' hi g ⟨y1, y2⟩ => by
    subst y1
    rw [List.getElem?_map] at y2
    cases hn : ns[i]? with
    | none => rw [hn] at y2; cases y2
    | some z =>
      rw [hn] at y2
      cases y2
      exact ⟨Ex.refl _, .int z, by rw [List.getElem?_map, hn]; rfl, .int z⟩⟩
theorem ok_law (T : Bl mg) (kF : KCls K mg "Full" A.Full ["groups"]) (c_law_told : Cal P w K mg base CX0 6 "_law_told" ["_law_kind", "_law_which", "_law_more"] (spF false RTold5)) (c_most : Cal P w K mg base CX0 3 "most" ["places", "many"] (spF false RDoorM)) (c_fullest : Cal P w K mg base CX0 3 "fullest" ["places", "many"] (spF true RDoorF)) (c_told : Cal P w K mg base CX0 4 "told" ["places", "ties", "many"] (spDoorT A))
    {f0 : Addr} {fd0 : FuncData} (F : FunD K "law" "law" (defArgs s_law) (defBody s_law) (defScope s_law) [] [] f0 fd0) : FnOk P w K mg base CX0 7 f0 fd0 ["_law_script"] (spLaw4 K) := by
  refine LawD.of F sc_law (fun vs H Q E ⟨a, ns, e, _⟩ => by rw [e] <;> rfl) (fun f cdv A' outer s H vs Q E hr h => ?_)
  obtain ⟨sa, ns, rfl, hS, hsz, hnl, kk⟩ := h
  refine ⟨_, (pss_cons (ps_for PassesOwn.never rfl (pi_listK (K := K) rfl (pv 0)) (pg_name (i := 1) sc_law.nd rfl (Or.inl rfl))
      (pss_cons (ps_set (i := 2) sc_law.nd rfl (Or.inr rfl) (pe_op op_mod (pv 1) pe_int))
      (pss_cons (ps_set (i := 3) sc_law.nd rfl (Or.inl rfl) (pe_op op_uAdd (pe_lc (own := [("_law_at", 4)]) (tt := tYes) rfl sc_law.nd (pi_range1 rfl T.range (pa_cons pe_int pa_nil)) (blkOk_by (N := N_law) (sc := defScope s_law) (by decide +kernel)) (fun _ _ _ _ _ => (pg_name (i := 4) sc_law.nd rfl (Or.inl rfl))) (fun _ _ _ _ _ => pts_nil) (fun _ _ _ _ _ => (pe_cmpR (op_eqK (K := K) rfl (hu64 hr)) (pv 2) (pv 4) (nomark _)))) (pe_lst (pa_cons pe_bl pa_nil))))
      (pss_one (ps_if (pt_cmpR (op_neK (K := K) rfl (hu64 hr)) (pe_cal c_law_told (hr.mono (by decide)) rfl pass0 (pa_cons (pv 2) (pa_cons (pe_op op_mod (pe_op op_fdivW (pv 1) pe_int) pe_int) (pa_cons (pe_op op_mod (pe_op op_fdivW (pv 1) pe_int) pe_int) pa_nil)))) (pv 3) (nomark _))
        (pss_one (ps_ret pe_bl))
        pss_nil)))))
    (pss_one (ps_ret (pe_and (pe_cmpR (op_eqK (K := K) rfl (hu64 hr)) (pe_cal c_most (hr.mono (by decide)) rfl pass0 (pa_cons pe_int (pa_cons pe_int pa_nil))) pe_int (nomark _)) (pe_and (pe_cmpR (op_eqK (K := K) rfl (hu64 hr)) (pe_fldK (K := K) rfl (pe_cal c_told (hr.mono (by decide)) rfl pass0 (pa_cons pe_int (pa_cons (pe_lst pa_nil) (pa_cons pe_int pa_nil)))) rfl) (pe_lst (pa_cons (pe_listRg rfl rfl T.list (prg_1 rfl T.range pe_int)) pa_nil)) (nomark _)) (pe_one (pe_cmpR (op_eqK (K := K) rfl (hu64 hr)) (pe_callB (call_lenK (K := K) (w := w) rfl rfl) rfl T.len bo_len (pa_cons (pe_cal c_fullest (hr.mono (by decide)) rfl pass0 (pa_cons pe_int (pa_cons (pe_op op_pow pe_int pe_int) pa_nil))) pa_nil)) pe_int (nomark _)))))))), ?_⟩
  refine q_forA (ds := ns.map PyData.int) (dw_script rfl hS) (fun i σ' H' => ∃ x1 x2 x3, σ' = [some (.ref sa), x1, x2, x3, none]) (fun H1 e1 => ⟨_, _, _, rfl⟩) ?_ (fun _ _ _ _ _ p => p) ?_
  · rintro i d x σ' H1 hd e1 hx ⟨x1, x2, x3, rfl⟩ N hN
    obtain ⟨z, hz, rfl⟩ := map_at hd
    cases hx.int_inv
    refine q_letI (k := z % 3) (d_op (d_vI rfl) d_int (rd_i (by decide : (0 : Int) < 3))) fun H2 e2 => ?_
    have kb : 0 ≤ z % 3 ∧ z % 3 ≤ 2 := by omega
    generalize z % 3 = kd at kb
    have r3 : rgI 0 3 = [0, 1, 2] := by decide
    refine q_let (n := true) (d := .list (bL [decide (kd = 0), decide (kd = 1), decide (kd = 2)] ++ bL [true])) (d_op (EvR.weak (n := true) (EvR.is (d_lcM (l := rgI 0 3) (emb := PyData.int) (fun a => .bool (decide (kd = a))) ?_ (by rw [r3]; show 3 ≤ 1000000; decide) (fun _ _ => rfl) fun a ha v H3 e3 hv => ?_) (by rw [r3]; rfl))) (d_lst (ds := bL [true]) (da_cons d_bl da_nil) (by show 1 ≤ 1000000; decide)).weak (rd_addL (by show 3 + 1 ≤ 1000000; decide))) fun vd H3 e3 hd3 _ => ?_
    · rw [show (rgI 0 3).map PyData.int = rgD 0 3 from (rgD_eq 0 3).symm]
      exact dw_range1 (da_cons d_int da_nil) (by decide)
    · cases hv.int_inv
      exact turn_name rfl t_yes fun _ => d_op (d_vI rfl) (d_vI rfl) rd_eqI
    have hd3 : Dt H3 vd (.list (bL (dueL kd))) := hd3
    refine s_when (b := !decide (dueL kd = dueL kd)) (t_test (d_op (d_call (ds := [.int kd, .int (z / 3 % 100000), .int (z / 300000 % 1000)]) (da_cons (d_vI rfl) (da_cons (d_op (d_op (d_vI rfl) d_int (rd_i (divW (by decide) (by decide)))) d_int (rd_i (by decide : (0 : Int) < 100000))) (da_cons (d_op (d_op (d_vI rfl) d_int (rd_i (divW (by decide) (by decide)))) d_int (rd_i (by decide : (0 : Int) < 1000))) da_nil))) (use_spF ⟨kd, _, _, rfl, kb.1, kb.2, by omega, by omega, rfl⟩)) (d_var rfl hd3) rd_neBL)) (fun hb => by rw [decide_eq_true rfl] at hb; cases hb) fun _ H4 e4 => hN _ _ ((e2.trans e3).trans e4) ⟨_, _, _, rfl⟩
  rintro σ' H1 e1 ⟨x1, x2, x3, rfl⟩
  have sm : ∀ {i : Int}, -1048576 < i ∧ i < 1048576 → Sz 400 i := fun h => (Sz.of (a := 20) h).mono (by decide)
  have b30 : (1 : Int) ≤ (10 : Int) ^ (30 : Int).toNat := by decide +kernel
  have f30 : (((fullF 60 ((10 : Int) ^ (30 : Int).toNat)).length : Nat) : Int) = 1770 := by
    rw [full_len (by decide) b30]
    decide +kernel
  have g60 : groupsF 60 [] = [rgI 0 60] := by decide +kernel
  generalize hfu : fullF 60 ((10 : Int) ^ (30 : Int).toNat) = fu at f30
  have lf : (pL fu).length = fu.length := List.length_map _
  have q1 : ∀ {σ : L2.St} {H : Hp}, EvD (tCB (rULen K w) (tCons (tCall (spF true RDoorF) [] E0 (tCons (tC (.int 60)) (tCons (tOp (rI CPow fun i j => .int (i ^ j.toNat)) (tC (.int 10)) (tC (.int 30))) tNil))) tNil)) σ H (.int ((fu.length : Nat) : Int)) := fun {σ H} => (d_cb1 (d_call (ds := [.int 60, .int ((10 : Int) ^ (30 : Int).toNat)]) (da_cons d_int (da_cons (d_op d_int d_int (rd_i (⟨by decide, by decide, by decide⟩ : CPow 10 30))) da_nil)) (use_spF ⟨60, _, rfl, by decide, by decide, b30, by rw [hfu]⟩)) rc_lenL).is (by rw [lf])
  have q2 : ∀ {σ : L2.St} {H : Hp}, EvD (tFld K (tCall (spDoorT A) [] E0 (tCons (tC (.int 60)) (tCons (tLst tNil) (tCons (tC (.int 1)) tNil)))) "groups") σ H (.list (gL [rgI 0 60])) := fun {σ H} => EvR.is (d_doorTG (n := 60) (m := 1) (ps := []) (da_cons d_int (da_cons (d_lst (ds := []) da_nil (by decide)).weak (da_cons d_int da_nil))) (by decide) (by decide) (by decide) (sm (by decide)) (WebOk.nil 60) (by decide +kernel) (by decide +kernel) kF.cl (kF.no _ (by decide))) (by rw [g60])
  have q3 : ∀ {σ : L2.St} {H : Hp}, EvD (tLst (tCons (tLstRg (tRg1 (tC (.int 60)))) tNil)) σ H (.list (gL [rgI 0 60])) := fun {σ H} => (d_lst (ds := gL [rgI 0 60]) (da_cons (d_listRg (rg_1 d_int) (by decide) (by decide)).weak da_nil) (by show 1 ≤ 1000000; decide)).weak
  refine r_d (n := false) (d := .bool true) (EvR.is (d_and (a := decide (mostT 61 1 = 0)) (b := decide ([rgI 0 60] = [rgI 0 60]) && decide (((fu.length : Nat) : Int) = 1770)) (d_op (d_call (ds := [.int 61, .int 1]) (da_cons d_int (da_cons d_int da_nil)) (use_spF ⟨61, 1, rfl, by decide, sm (by decide), sm (by decide), by decide, rfl⟩)) d_int rd_eqI) fun _ => d_and (d_op q2 q3 rd_eqG) fun _ => d_op q1 d_int rd_eqI) ?_) (kk.back e1)
  rw [f30, decide_eq_true rfl, decide_eq_true rfl, show mostT 61 1 = 0 from by decide +kernel]
  rfl
end
end SC

/-! FIN: the head and the law. -/
namespace SC
open PySem PySem.Spec PyProof.Rows L2 Evl
/-- what isinstance asks of an error's class -/
def excX (C : Str) : FxD := fun K => He.eqO (PySem.W.findIn K (.ref (He.ga K C)) "__getattribute__") (some (some (.builtin "BaseException.__getattribute__"))) && (He.eqO (PySem.W.findIn K (.ref (He.ga K C)) "__getattr__") (some none) && (decide (PySem.W.subIn K (.ref (He.ga K C)) (.type "BaseException") = some true) && (PySem.W.hasDictIn K (He.ga K C) &&
  (He.eqO (PySem.W.findIn K (.ref (He.ga K C)) "__class__") (some (some (.builtin "object.__class__"))) && (He.eqO (PySem.W.specialIn K (.builtin "object.__class__") "__get__") (some (some (.builtin "getset_descriptor.__get__"))) && (decide (PySem.W.takesIn K (.builtin "object.__class__") = some true) && decide (PySem.W.mroIn K (He.ga K C) (.type "object") = some true)))))))
theorem excX_ok {C : Str} {K : PySem.W.Frag} (h : excX C K = true) : ExcC K (He.ga K C) := by
  obtain ⟨h1, h⟩ := Bool.and_eq_true_iff.mp h
  obtain ⟨h2, h⟩ := Bool.and_eq_true_iff.mp h
  obtain ⟨h3, h⟩ := Bool.and_eq_true_iff.mp h
  obtain ⟨h4, h⟩ := Bool.and_eq_true_iff.mp h
  obtain ⟨h5, h⟩ := Bool.and_eq_true_iff.mp h
  obtain ⟨h6, h⟩ := Bool.and_eq_true_iff.mp h
  obtain ⟨h7, h8⟩ := Bool.and_eq_true_iff.mp h
  exact ⟨He.eqO_ok h1, He.eqO_ok h2, of_decide_eq_true h3, h4, He.eqO_ok h5, He.eqO_ok h6, of_decide_eq_true h7, of_decide_eq_true h8⟩
def kvX (C : Str) : FxD := fun K => decide (PySem.W.kitOne K (.ref (He.ga K C)) (.type "ValueError") = some true)
theorem kvX_ok {C : Str} {K : PySem.W.Frag} (h : kvX C K = true) : PySem.W.kitOne K (.ref (He.ga K C)) (.type "ValueError") = some true := of_decide_eq_true h
def dd_wall : He.DefD := ⟨("_wall", none), "_wall", "_wall", defArgs s_wall, defBody s_wall, defScope s_wall, [], []⟩
def dd_is_number : He.DefD := ⟨("is_number", none), "is_number", "is_number", defArgs s_is_number, defBody s_is_number, defScope s_is_number, [], []⟩
def dd_is_tie : He.DefD := ⟨("is_tie", none), "is_tie", "is_tie", defArgs s_is_tie, defBody s_is_tie, defScope s_is_tie, [], []⟩
def dd_asked_places : He.DefD := ⟨("asked_places", none), "asked_places", "asked_places", defArgs s_asked_places, defBody s_asked_places, defScope s_asked_places, [], []⟩
def dd_asked_web : He.DefD := ⟨("asked_web", none), "asked_web", "asked_web", defArgs s_asked_web, defBody s_asked_web, defScope s_asked_web, [], []⟩
def dd_asked_many : He.DefD := ⟨("asked_many", none), "asked_many", "asked_many", defArgs s_asked_many, defBody s_asked_many, defScope s_asked_many, [], []⟩
def dd_near_of : He.DefD := ⟨("near_of", none), "near_of", "near_of", defArgs s_near_of, defBody s_near_of, defScope s_near_of, [], []⟩
def dd_most_ties : He.DefD := ⟨("most_ties", none), "most_ties", "most_ties", defArgs s_most_ties, defBody s_most_ties, defScope s_most_ties, [], []⟩
def dd_Crowd_init : He.DefD := ⟨("Crowd", some "__init__"), "__init__", "Crowd.__init__", defArgs s_Crowd_init, defBody s_Crowd_init, defScope s_Crowd_init, [], []⟩
def dd_Crowd_shows : He.DefD := ⟨("Crowd", some "shows"), "shows", "Crowd.shows", defArgs s_Crowd_shows, defBody s_Crowd_shows, defScope s_Crowd_shows, [], []⟩
def dd_Full_init : He.DefD := ⟨("Full", some "__init__"), "__init__", "Full.__init__", defArgs s_Full_init, defBody s_Full_init, defScope s_Full_init, [], []⟩
def dd_Full_shows : He.DefD := ⟨("Full", some "shows"), "shows", "Full.shows", defArgs s_Full_shows, defBody s_Full_shows, defScope s_Full_shows, [], []⟩
def dd_Spare_init : He.DefD := ⟨("Spare", some "__init__"), "__init__", "Spare.__init__", defArgs s_Spare_init, defBody s_Spare_init, defScope s_Spare_init, [], []⟩
def dd_Spare_shows : He.DefD := ⟨("Spare", some "shows"), "shows", "Spare.shows", defArgs s_Spare_shows, defBody s_Spare_shows, defScope s_Spare_shows, [], []⟩
def dd_Parted_init : He.DefD := ⟨("Parted", some "__init__"), "__init__", "Parted.__init__", defArgs s_Parted_init, defBody s_Parted_init, defScope s_Parted_init, [], []⟩
def dd_Parted_shows : He.DefD := ⟨("Parted", some "shows"), "shows", "Parted.shows", defArgs s_Parted_shows, defBody s_Parted_shows, defScope s_Parted_shows, [], []⟩
def dd_Three_init : He.DefD := ⟨("Three", some "__init__"), "__init__", "Three.__init__", defArgs s_Three_init, defBody s_Three_init, defScope s_Three_init, [], []⟩
def dd_Three_shows : He.DefD := ⟨("Three", some "shows"), "shows", "Three.shows", defArgs s_Three_shows, defBody s_Three_shows, defScope s_Three_shows, [], []⟩
def dd_crowd_of : He.DefD := ⟨("crowd_of", none), "crowd_of", "crowd_of", defArgs s_crowd_of, defBody s_crowd_of, defScope s_crowd_of, [], []⟩
def dd_groups_of : He.DefD := ⟨("groups_of", none), "groups_of", "groups_of", defArgs s_groups_of, defBody s_groups_of, defScope s_groups_of, [], []⟩
def dd_bar_of : He.DefD := ⟨("bar_of", none), "bar_of", "bar_of", defArgs s_bar_of, defBody s_bar_of, defScope s_bar_of, [], []⟩
def dd_parted : He.DefD := ⟨("parted", none), "parted", "parted", defArgs s_parted, defBody s_parted, defScope s_parted, [], []⟩
def dd_told : He.DefD := ⟨("told", none), "told", "told", defArgs s_told, defBody s_told, defScope s_told, [], []⟩
def dd_most : He.DefD := ⟨("most", none), "most", "most", defArgs s_most, defBody s_most, defScope s_most, [], []⟩
def dd_fullest : He.DefD := ⟨("fullest", none), "fullest", "fullest", defArgs s_fullest, defBody s_fullest, defScope s_fullest, [], []⟩
def dd_law_with_places : He.DefD := ⟨("_law_with_places", none), "_law_with_places", "_law_with_places", defArgs s_law_with_places, defBody s_law_with_places, defScope s_law_with_places, [], []⟩
def dd_law_bad_ties : He.DefD := ⟨("_law_bad_ties", none), "_law_bad_ties", "_law_bad_ties", defArgs s_law_bad_ties, defBody s_law_bad_ties, defScope s_law_bad_ties, [], []⟩
def dd_law_told : He.DefD := ⟨("_law_told", none), "_law_told", "_law_told", defArgs s_law_told, defBody s_law_told, defScope s_law_told, [], []⟩
def dd_law : He.DefD := ⟨("law", none), "law", "law", defArgs s_law, defBody s_law, defScope s_law, [], []⟩
def hfn0 : List He.DefD := [dd_wall, dd_is_number, dd_is_tie, dd_asked_places, dd_asked_web, dd_asked_many, dd_near_of, dd_most_ties, dd_Crowd_init, dd_Crowd_shows, dd_Full_init, dd_Full_shows, dd_Spare_init, dd_Spare_shows, dd_Parted_init, dd_Parted_shows, dd_Three_init, dd_Three_shows, dd_crowd_of, dd_groups_of, dd_bar_of, dd_parted, dd_told, dd_most, dd_fullest, dd_law_with_places, dd_law_bad_ties, dd_law_told, dd_law]
def hfn : List He.DefD := hfn0
def hfa0 : List He.Fa := [.glo "_wall", .glo "CrowdError", .glo "BadPlaces", .glo "BadTies", .glo "BadMany", .glo "is_number", .glo "is_tie", .glo "asked_places", .glo "asked_web", .glo "asked_many", .glo "near_of", .glo "Answer", .glo "most_ties", .glo "Crowd", .cls "Crowd", .mkr "Crowd", .noat "Crowd" "some", .meth "Crowd" "shows", .glo "Full", .cls "Full", .mkr "Full", .noat "Full" "groups", .meth "Full" "shows", .glo "Spare", .cls "Spare", .mkr "Spare", .noat "Spare" "ties", .meth "Spare" "shows", .glo "Parted", .cls "Parted"]
def hfa1 : List He.Fa := [.mkr "Parted", .noat "Parted" "groups", .meth "Parted" "shows", .glo "Three", .cls "Three", .mkr "Three", .noat "Three" "one", .noat "Three" "other", .noat "Three" "third", .meth "Three" "shows", .glo "crowd_of", .glo "groups_of", .glo "bar_of", .glo "parted", .glo "told", .glo "most", .glo "fullest", .glo "_law_with_places", .glo "_law_bad_ties", .glo "_law_told", .glo "law", .free "len", .free "sorted", .free "sum", .free "max", .free "min", .free "all", .free "any", .free "abs", .free "isinstance"]
def hfa2 : List He.Fa := [.free "divmod", .free "list", .free "set", .free "int", .free "bool", .free "tuple", .free "str", .free "range", .free "enumerate", .int "MOST" 60, .free "ValueError", .exc "BadPlaces", .exc "BadTies", .exc "BadMany", .exm "BadPlaces" "CrowdError" true, .exm "BadTies" "CrowdError" true, .exm "BadMany" "CrowdError" true]
def hfa : List He.Fa := hfa0 ++ hfa1 ++ hfa2
def hnames0 : List PySem.Str := ["_wall", "CrowdError", "BadPlaces", "BadTies", "BadMany", "MOST", "is_number", "is_tie", "asked_places", "asked_web", "asked_many", "near_of", "Answer", "most_ties", "Crowd", "Full", "Spare", "Parted", "Three", "crowd_of", "groups_of", "bar_of", "parted", "told", "most", "fullest", "_law_with_places", "_law_bad_ties", "_law_told"]
def hnames : List PySem.Str := hnames0
def hxs0 : List FxD := [excX "BadPlaces", excX "BadTies", excX "BadMany", kvX "BadPlaces", kvX "BadTies", kvX "BadMany", ktX "BadPlaces" "BadPlaces" true, ktX "BadPlaces" "BadTies" false, ktX "BadPlaces" "BadMany" false, ktX "BadTies" "BadPlaces" false, ktX "BadTies" "BadTies" true, ktX "BadTies" "BadMany" false, ktX "BadMany" "BadPlaces" false, ktX "BadMany" "BadTies" false, ktX "BadMany" "BadMany" true]
def hxs : List FxD := hxs0
abbrev hR : PySem.W.OpenRow := PySem.W.OpenLaw.row PySem.Challenge.rw_surecrowd_k05_refused
abbrev hk : PySem.W.Hook := hookX 5 hfa hfn hxs
def hob (s : PySem.W.SharedT) : Bool × He.AlD := obsXG 5 hfa hfn hxs (HandSHeadRun.getT s)
theorem hob_eq (s : PySem.W.SharedT) : hob s = hk.obs s.abs := obsXG_eq (HandSHeadRun.getT_eq s)
theorem hrun (w : World) : HandSHeadRun.RunEq hR (PySem.W.view hR.prog [35]) hk hob 20000 hnames w := by
  intro os
  kernel_rfl
section
variable {K : PySem.W.Frag} {h : Heap} {mg : Str → Option Value}
theorem f_wall (X : K.In h) (G : h.Ns mainGlobals mg) (c : He.SaysD hfa hfn K) : FDef K mg "_wall" s_wall := by
  obtain ⟨fd, F⟩ := c.def_ 0 (d := dd_wall) rfl
  exact ⟨_, fd, F, (He.glo_ok X G (c.fact 0 (f := .glo "_wall") rfl))⟩
theorem f_is_number (X : K.In h) (G : h.Ns mainGlobals mg) (c : He.SaysD hfa hfn K) : FDef K mg "is_number" s_is_number := by
  obtain ⟨fd, F⟩ := c.def_ 1 (d := dd_is_number) rfl
  exact ⟨_, fd, F, (He.glo_ok X G (c.fact 5 (f := .glo "is_number") rfl))⟩
theorem f_is_tie (X : K.In h) (G : h.Ns mainGlobals mg) (c : He.SaysD hfa hfn K) : FDef K mg "is_tie" s_is_tie := by
  obtain ⟨fd, F⟩ := c.def_ 2 (d := dd_is_tie) rfl
  exact ⟨_, fd, F, (He.glo_ok X G (c.fact 6 (f := .glo "is_tie") rfl))⟩
theorem f_asked_places (X : K.In h) (G : h.Ns mainGlobals mg) (c : He.SaysD hfa hfn K) : FDef K mg "asked_places" s_asked_places := by
  obtain ⟨fd, F⟩ := c.def_ 3 (d := dd_asked_places) rfl
  exact ⟨_, fd, F, (He.glo_ok X G (c.fact 7 (f := .glo "asked_places") rfl))⟩
theorem f_asked_web (X : K.In h) (G : h.Ns mainGlobals mg) (c : He.SaysD hfa hfn K) : FDef K mg "asked_web" s_asked_web := by
  obtain ⟨fd, F⟩ := c.def_ 4 (d := dd_asked_web) rfl
  exact ⟨_, fd, F, (He.glo_ok X G (c.fact 8 (f := .glo "asked_web") rfl))⟩
theorem f_asked_many (X : K.In h) (G : h.Ns mainGlobals mg) (c : He.SaysD hfa hfn K) : FDef K mg "asked_many" s_asked_many := by
  obtain ⟨fd, F⟩ := c.def_ 5 (d := dd_asked_many) rfl
  exact ⟨_, fd, F, (He.glo_ok X G (c.fact 9 (f := .glo "asked_many") rfl))⟩
theorem f_near_of (X : K.In h) (G : h.Ns mainGlobals mg) (c : He.SaysD hfa hfn K) : FDef K mg "near_of" s_near_of := by
  obtain ⟨fd, F⟩ := c.def_ 6 (d := dd_near_of) rfl
  exact ⟨_, fd, F, (He.glo_ok X G (c.fact 10 (f := .glo "near_of") rfl))⟩
theorem f_most_ties (X : K.In h) (G : h.Ns mainGlobals mg) (c : He.SaysD hfa hfn K) : FDef K mg "most_ties" s_most_ties := by
  obtain ⟨fd, F⟩ := c.def_ 7 (d := dd_most_ties) rfl
  exact ⟨_, fd, F, (He.glo_ok X G (c.fact 12 (f := .glo "most_ties") rfl))⟩
theorem f_Crowd_init (c : He.SaysD hfa hfn K) : IDef K (He.ga K "Crowd") "Crowd.__init__" s_Crowd_init := by
  obtain ⟨fd, F⟩ := c.def_ 8 (d := dd_Crowd_init) rfl
  exact ⟨_, fd, F, He.mkr_ok (c.fact 15 (f := .mkr "Crowd") rfl)⟩
theorem f_Crowd_shows (c : He.SaysD hfa hfn K) : MDef K (He.ga K "Crowd") "shows" "Crowd.shows" s_Crowd_shows := by
  obtain ⟨fd, F⟩ := c.def_ 9 (d := dd_Crowd_shows) rfl
  exact ⟨_, fd, F, He.meth_ok (c.fact 17 (f := .meth "Crowd" "shows") rfl)⟩
theorem f_Full_init (c : He.SaysD hfa hfn K) : IDef K (He.ga K "Full") "Full.__init__" s_Full_init := by
  obtain ⟨fd, F⟩ := c.def_ 10 (d := dd_Full_init) rfl
  exact ⟨_, fd, F, He.mkr_ok (c.fact 20 (f := .mkr "Full") rfl)⟩
theorem f_Full_shows (c : He.SaysD hfa hfn K) : MDef K (He.ga K "Full") "shows" "Full.shows" s_Full_shows := by
  obtain ⟨fd, F⟩ := c.def_ 11 (d := dd_Full_shows) rfl
  exact ⟨_, fd, F, He.meth_ok (c.fact 22 (f := .meth "Full" "shows") rfl)⟩
theorem f_Spare_init (c : He.SaysD hfa hfn K) : IDef K (He.ga K "Spare") "Spare.__init__" s_Spare_init := by
  obtain ⟨fd, F⟩ := c.def_ 12 (d := dd_Spare_init) rfl
  exact ⟨_, fd, F, He.mkr_ok (c.fact 25 (f := .mkr "Spare") rfl)⟩
theorem f_Spare_shows (c : He.SaysD hfa hfn K) : MDef K (He.ga K "Spare") "shows" "Spare.shows" s_Spare_shows := by
  obtain ⟨fd, F⟩ := c.def_ 13 (d := dd_Spare_shows) rfl
  exact ⟨_, fd, F, He.meth_ok (c.fact 27 (f := .meth "Spare" "shows") rfl)⟩
theorem f_Parted_init (c : He.SaysD hfa hfn K) : IDef K (He.ga K "Parted") "Parted.__init__" s_Parted_init := by
  obtain ⟨fd, F⟩ := c.def_ 14 (d := dd_Parted_init) rfl
  exact ⟨_, fd, F, He.mkr_ok (c.fact 30 (f := .mkr "Parted") rfl)⟩
theorem f_Parted_shows (c : He.SaysD hfa hfn K) : MDef K (He.ga K "Parted") "shows" "Parted.shows" s_Parted_shows := by
  obtain ⟨fd, F⟩ := c.def_ 15 (d := dd_Parted_shows) rfl
  exact ⟨_, fd, F, He.meth_ok (c.fact 32 (f := .meth "Parted" "shows") rfl)⟩
theorem f_Three_init (c : He.SaysD hfa hfn K) : IDef K (He.ga K "Three") "Three.__init__" s_Three_init := by
  obtain ⟨fd, F⟩ := c.def_ 16 (d := dd_Three_init) rfl
  exact ⟨_, fd, F, He.mkr_ok (c.fact 35 (f := .mkr "Three") rfl)⟩
theorem f_Three_shows (c : He.SaysD hfa hfn K) : MDef K (He.ga K "Three") "shows" "Three.shows" s_Three_shows := by
  obtain ⟨fd, F⟩ := c.def_ 17 (d := dd_Three_shows) rfl
  exact ⟨_, fd, F, He.meth_ok (c.fact 39 (f := .meth "Three" "shows") rfl)⟩
theorem f_crowd_of (X : K.In h) (G : h.Ns mainGlobals mg) (c : He.SaysD hfa hfn K) : FDef K mg "crowd_of" s_crowd_of := by
  obtain ⟨fd, F⟩ := c.def_ 18 (d := dd_crowd_of) rfl
  exact ⟨_, fd, F, (He.glo_ok X G (c.fact 40 (f := .glo "crowd_of") rfl))⟩
theorem f_groups_of (X : K.In h) (G : h.Ns mainGlobals mg) (c : He.SaysD hfa hfn K) : FDef K mg "groups_of" s_groups_of := by
  obtain ⟨fd, F⟩ := c.def_ 19 (d := dd_groups_of) rfl
  exact ⟨_, fd, F, (He.glo_ok X G (c.fact 41 (f := .glo "groups_of") rfl))⟩
theorem f_bar_of (X : K.In h) (G : h.Ns mainGlobals mg) (c : He.SaysD hfa hfn K) : FDef K mg "bar_of" s_bar_of := by
  obtain ⟨fd, F⟩ := c.def_ 20 (d := dd_bar_of) rfl
  exact ⟨_, fd, F, (He.glo_ok X G (c.fact 42 (f := .glo "bar_of") rfl))⟩
theorem f_parted (X : K.In h) (G : h.Ns mainGlobals mg) (c : He.SaysD hfa hfn K) : FDef K mg "parted" s_parted := by
  obtain ⟨fd, F⟩ := c.def_ 21 (d := dd_parted) rfl
  exact ⟨_, fd, F, (He.glo_ok X G (c.fact 43 (f := .glo "parted") rfl))⟩
theorem f_told (X : K.In h) (G : h.Ns mainGlobals mg) (c : He.SaysD hfa hfn K) : FDef K mg "told" s_told := by
  obtain ⟨fd, F⟩ := c.def_ 22 (d := dd_told) rfl
  exact ⟨_, fd, F, (He.glo_ok X G (c.fact 44 (f := .glo "told") rfl))⟩
theorem f_most (X : K.In h) (G : h.Ns mainGlobals mg) (c : He.SaysD hfa hfn K) : FDef K mg "most" s_most := by
  obtain ⟨fd, F⟩ := c.def_ 23 (d := dd_most) rfl
  exact ⟨_, fd, F, (He.glo_ok X G (c.fact 45 (f := .glo "most") rfl))⟩
theorem f_fullest (X : K.In h) (G : h.Ns mainGlobals mg) (c : He.SaysD hfa hfn K) : FDef K mg "fullest" s_fullest := by
  obtain ⟨fd, F⟩ := c.def_ 24 (d := dd_fullest) rfl
  exact ⟨_, fd, F, (He.glo_ok X G (c.fact 46 (f := .glo "fullest") rfl))⟩
theorem f_law_with_places (X : K.In h) (G : h.Ns mainGlobals mg) (c : He.SaysD hfa hfn K) : FDef K mg "_law_with_places" s_law_with_places := by
  obtain ⟨fd, F⟩ := c.def_ 25 (d := dd_law_with_places) rfl
  exact ⟨_, fd, F, (He.glo_ok X G (c.fact 47 (f := .glo "_law_with_places") rfl))⟩
theorem f_law_bad_ties (X : K.In h) (G : h.Ns mainGlobals mg) (c : He.SaysD hfa hfn K) : FDef K mg "_law_bad_ties" s_law_bad_ties := by
  obtain ⟨fd, F⟩ := c.def_ 26 (d := dd_law_bad_ties) rfl
  exact ⟨_, fd, F, (He.glo_ok X G (c.fact 48 (f := .glo "_law_bad_ties") rfl))⟩
theorem f_law_told (X : K.In h) (G : h.Ns mainGlobals mg) (c : He.SaysD hfa hfn K) : FDef K mg "_law_told" s_law_told := by
  obtain ⟨fd, F⟩ := c.def_ 27 (d := dd_law_told) rfl
  exact ⟨_, fd, F, (He.glo_ok X G (c.fact 49 (f := .glo "_law_told") rfl))⟩
theorem f_law (X : K.In h) (G : h.Ns mainGlobals mg) (c : He.SaysD hfa hfn K) : FDef K mg "law" s_law := by
  obtain ⟨fd, F⟩ := c.def_ 28 (d := dd_law) rfl
  exact ⟨_, fd, F, (He.glo_ok X G (c.fact 50 (f := .glo "law") rfl))⟩
theorem k_Crowd (X : K.In h) (G : h.Ns mainGlobals mg) (c : He.SaysD hfa hfn K) : KCls K mg "Crowd" (He.ga K "Crowd") ["some"] := by
  refine ⟨He.cls_ok (c.fact 14 (f := .cls "Crowd") rfl), (He.glo_ok X G (c.fact 13 (f := .glo "Crowd") rfl)), fun f hf => ?_⟩
  simp only [List.mem_cons, List.not_mem_nil, or_false] at hf
  subst hf
  · exact He.noat_ok (c.fact 16 (f := .noat "Crowd" "some") rfl)
theorem k_Full (X : K.In h) (G : h.Ns mainGlobals mg) (c : He.SaysD hfa hfn K) : KCls K mg "Full" (He.ga K "Full") ["groups"] := by
  refine ⟨He.cls_ok (c.fact 19 (f := .cls "Full") rfl), (He.glo_ok X G (c.fact 18 (f := .glo "Full") rfl)), fun f hf => ?_⟩
  simp only [List.mem_cons, List.not_mem_nil, or_false] at hf
  subst hf
  · exact He.noat_ok (c.fact 21 (f := .noat "Full" "groups") rfl)
theorem k_Spare (X : K.In h) (G : h.Ns mainGlobals mg) (c : He.SaysD hfa hfn K) : KCls K mg "Spare" (He.ga K "Spare") ["ties"] := by
  refine ⟨He.cls_ok (c.fact 24 (f := .cls "Spare") rfl), (He.glo_ok X G (c.fact 23 (f := .glo "Spare") rfl)), fun f hf => ?_⟩
  simp only [List.mem_cons, List.not_mem_nil, or_false] at hf
  subst hf
  · exact He.noat_ok (c.fact 26 (f := .noat "Spare" "ties") rfl)
theorem k_Parted (X : K.In h) (G : h.Ns mainGlobals mg) (c : He.SaysD hfa hfn K) : KCls K mg "Parted" (He.ga K "Parted") ["groups"] := by
  refine ⟨He.cls_ok (c.fact 29 (f := .cls "Parted") rfl), (He.glo_ok X G (c.fact 28 (f := .glo "Parted") rfl)), fun f hf => ?_⟩
  simp only [List.mem_cons, List.not_mem_nil, or_false] at hf
  subst hf
  · exact He.noat_ok (c.fact 31 (f := .noat "Parted" "groups") rfl)
theorem k_Three (X : K.In h) (G : h.Ns mainGlobals mg) (c : He.SaysD hfa hfn K) : KCls K mg "Three" (He.ga K "Three") ["one", "other", "third"] := by
  refine ⟨He.cls_ok (c.fact 34 (f := .cls "Three") rfl), (He.glo_ok X G (c.fact 33 (f := .glo "Three") rfl)), fun f hf => ?_⟩
  simp only [List.mem_cons, List.not_mem_nil, or_false] at hf
  rcases hf with rfl | rfl | rfl
  · exact He.noat_ok (c.fact 36 (f := .noat "Three" "one") rfl)
  · exact He.noat_ok (c.fact 37 (f := .noat "Three" "other") rfl)
  · exact He.noat_ok (c.fact 38 (f := .noat "Three" "third") rfl)
theorem h_bl (X : K.In h) (G : h.Ns mainGlobals mg) (c : He.SaysD hfa hfn K) : Bl mg := ⟨He.free_ok X G (c.fact 51 (f := .free "len") rfl), He.free_ok X G (c.fact 52 (f := .free "sorted") rfl), He.free_ok X G (c.fact 53 (f := .free "sum") rfl), He.free_ok X G (c.fact 54 (f := .free "max") rfl), He.free_ok X G (c.fact 55 (f := .free "min") rfl), He.free_ok X G (c.fact 56 (f := .free "all") rfl), He.free_ok X G (c.fact 57 (f := .free "any") rfl), He.free_ok X G (c.fact 58 (f := .free "abs") rfl), He.free_ok X G (c.fact 59 (f := .free "isinstance") rfl), He.free_ok X G (c.fact 60 (f := .free "divmod") rfl), He.free_ok X G (c.fact 61 (f := .free "list") rfl), He.free_ok X G (c.fact 62 (f := .free "set") rfl), He.free_ok X G (c.fact 63 (f := .free "int") rfl), He.free_ok X G (c.fact 64 (f := .free "bool") rfl), He.free_ok X G (c.fact 65 (f := .free "tuple") rfl), He.free_ok X G (c.fact 66 (f := .free "str") rfl), He.free_ok X G (c.fact 67 (f := .free "range") rfl), He.free_ok X G (c.fact 68 (f := .free "enumerate") rfl)⟩
theorem h_law (X : K.In h) (G : h.Ns mainGlobals mg) (c : He.SaysD hfa hfn K) {f : Addr} (hfa : mg ("law" : Str) = some (.ref f)) : ∃ fd, FunD K "law" "law" (defArgs s_law) (defBody s_law) (defScope s_law) [] [] f fd := by
  obtain ⟨fd, F⟩ := c.def_ 28 (d := dd_law) rfl
  have e := hfa.symm.trans (He.glo_ok X G (c.fact 50 (f := .glo "law") rfl))
  cases e
  exact ⟨fd, F⟩
theorem h_MOST (X : K.In h) (G : h.Ns mainGlobals mg) (c : He.SaysD hfa hfn K) : ∃ t, mg "MOST" = some (.int 60 t) := He.int_ok X G (c.fact 69 (f := .int "MOST" 60) rfl)
theorem h_free_ValueError (X : K.In h) (G : h.Ns mainGlobals mg) (c : He.SaysD hfa hfn K) : mg "ValueError" = none := He.free_ok X G (c.fact 70 (f := .free "ValueError") rfl)
theorem h_exc_BadPlaces (X : K.In h) (G : h.Ns mainGlobals mg) (c : He.SaysD hfa hfn K) : ExT K mg "BadPlaces" (He.ga K "BadPlaces") := by
  obtain ⟨a1, a2, a3, a4⟩ := He.exc_ok (c.fact 71 (f := .exc "BadPlaces") rfl)
  exact ⟨a1, (He.glo_ok X G (c.fact 2 (f := .glo "BadPlaces") rfl)), a2, a3, a4⟩
theorem h_exc_BadTies (X : K.In h) (G : h.Ns mainGlobals mg) (c : He.SaysD hfa hfn K) : ExT K mg "BadTies" (He.ga K "BadTies") := by
  obtain ⟨a1, a2, a3, a4⟩ := He.exc_ok (c.fact 72 (f := .exc "BadTies") rfl)
  exact ⟨a1, (He.glo_ok X G (c.fact 3 (f := .glo "BadTies") rfl)), a2, a3, a4⟩
theorem h_exc_BadMany (X : K.In h) (G : h.Ns mainGlobals mg) (c : He.SaysD hfa hfn K) : ExT K mg "BadMany" (He.ga K "BadMany") := by
  obtain ⟨a1, a2, a3, a4⟩ := He.exc_ok (c.fact 73 (f := .exc "BadMany") rfl)
  exact ⟨a1, (He.glo_ok X G (c.fact 4 (f := .glo "BadMany") rfl)), a2, a3, a4⟩
theorem h_exm_BadPlaces (c : He.SaysD hfa hfn K) : PySem.W.exmOne K (.ref (He.ga K "BadPlaces")) (.ref (He.ga K "CrowdError")) = some true := He.exm_ok (c.fact 74 (f := .exm "BadPlaces" "CrowdError" true) rfl)
theorem h_exm_BadTies (c : He.SaysD hfa hfn K) : PySem.W.exmOne K (.ref (He.ga K "BadTies")) (.ref (He.ga K "CrowdError")) = some true := He.exm_ok (c.fact 75 (f := .exm "BadTies" "CrowdError" true) rfl)
theorem h_exm_BadMany (c : He.SaysD hfa hfn K) : PySem.W.exmOne K (.ref (He.ga K "BadMany")) (.ref (He.ga K "CrowdError")) = some true := He.exm_ok (c.fact 76 (f := .exm "BadMany" "CrowdError" true) rfl)
theorem h_CrowdError (X : K.In h) (G : h.Ns mainGlobals mg) (c : He.SaysD hfa hfn K) : mg "CrowdError" = some (.ref (He.ga K "CrowdError")) := (He.glo_ok X G (c.fact 1 (f := .glo "CrowdError") rfl))
theorem h_Answer (X : K.In h) (G : h.Ns mainGlobals mg) (c : He.SaysD hfa hfn K) : mg "Answer" = some (.ref (He.ga K "Answer")) := (He.glo_ok X G (c.fact 11 (f := .glo "Answer") rfl))
end
theorem facts {P : Program} {w : World} {K : PySem.W.Frag} {h : Heap} {mg : Str → Option Value} {f : Addr} (X : K.In h) (G : h.Ns mainGlobals mg) (hlw : mg ("law" : Str) = some (.ref f)) (c : He.SaysD hfa hfn K) (cx : (hxs.all fun f => f K) = true) :
    ∃ fd : FuncData, (∀ (s : Shared) (v : Value), BindsTo s fd ⟨[v], []⟩ [("_law_script", v)]) ∧ ∀ base : Heap, K.In base → base.Ns mainGlobals mg → FnOk P w K mg base CX0 7 f fd ["_law_script"] (spLaw4 K) := by
  obtain ⟨fd, F⟩ := h_law X G c hlw
  have b := FunD.bindsA (ps := ["_law_script"]) F fun _ _ _ _ _ _ us hl => match us, hl with | [_], _ => rfl
  refine ⟨fd, fun s v => b s [v] rfl, fun base _ _ => ?_⟩
  have T := h_bl X G c
  have kC := k_Crowd X G c
  have kF := k_Full X G c
  have kS := k_Spare X G c
  have tP := h_exc_BadPlaces X G c
  have tT := h_exc_BadTies X G c
  have tM := h_exc_BadMany X G c
  have XP : ErrC K (He.ga K "CrowdError") (He.ga K "BadPlaces") (He.ga K "BadTies") (He.ga K "BadMany") (He.ga K "BadPlaces") true false false := ⟨excX_ok (fx_at cx 0 rfl), h_exm_BadPlaces c, ktX_ok (fx_at cx 6 rfl), ktX_ok (fx_at cx 7 rfl), ktX_ok (fx_at cx 8 rfl), kvX_ok (fx_at cx 3 rfl)⟩
  have XT : ErrC K (He.ga K "CrowdError") (He.ga K "BadPlaces") (He.ga K "BadTies") (He.ga K "BadMany") (He.ga K "BadTies") false true false := ⟨excX_ok (fx_at cx 1 rfl), h_exm_BadTies c, ktX_ok (fx_at cx 9 rfl), ktX_ok (fx_at cx 10 rfl), ktX_ok (fx_at cx 11 rfl), kvX_ok (fx_at cx 4 rfl)⟩
  have XM : ErrC K (He.ga K "CrowdError") (He.ga K "BadPlaces") (He.ga K "BadTies") (He.ga K "BadMany") (He.ga K "BadMany") false false true := ⟨excX_ok (fx_at cx 2 rfl), h_exm_BadMany c, ktX_ok (fx_at cx 12 rfl), ktX_ok (fx_at cx 13 rfl), ktX_ok (fx_at cx 14 rfl), kvX_ok (fx_at cx 5 rfl)⟩
  have near := ok_near_of (P := P) (w := w) (base := base) T (f_near_of X G c)
  have mostt := ok_most_ties (P := P) (w := w) (base := base) T (f_most_ties X G c)
  have isnum := ok_is_number (P := P) (w := w) (base := base) T (f_is_number X G c)
  have istie := ok_is_tie T isnum (f_is_tie X G c)
  have askp := ok_asked_places T isnum (h_MOST X G c) (f_asked_places X G c)
  have askw := ok_asked_web T istie askp (f_asked_web X G c)
  have askm := ok_asked_many T isnum (f_asked_many X G c)
  have most := ok_most T isnum askm mostt (f_most X G c)
  have full := ok_fullest T askp askm (f_fullest X G c)
  have grof := ok_groups_of T near (f_groups_of X G c)
  have crof := ok_crowd_of T near (f_crowd_of X G c)
  have iC := ok_Crowd_init (P := P) (w := w) (base := base) T kC (f_Crowd_init c)
  have iF := ok_Full_init (P := P) (w := w) (base := base) T kF (f_Full_init c)
  have iS := ok_Spare_init (P := P) (w := w) (base := base) T kS (f_Spare_init c)
  have told := ok_told (A := ⟨He.ga K "Crowd", He.ga K "Full", He.ga K "Spare", He.ga K "Parted", He.ga K "Three"⟩) T iS iC iF askw askm mostt crof grof (f_told X G c)
  have num5 := ok_is_number5 (P := P) (w := w) (base := base) T (f_is_number X G c)
  have tie5 := ok_is_tie5 T num5 (f_is_tie X G c)
  have xp := x_asked_places T tP num5 (h_MOST X G c) (f_asked_places X G c)
  have xm := x_asked_many T tM num5 (f_asked_many X G c)
  have xw := x_asked_web T tT tie5 askp xp (f_asked_web X G c)
  have xmost := x_most T tP num5 xm (f_most X G c)
  have xfull := x_fullest T askp xp xm (f_fullest X G c)
  have xpart := x_parted T xw (f_parted X G c)
  have xtold := x_told T askw xw xm (f_told X G c)
  have xwith := x_law_with_places T xfull xtold xpart (f_law_with_places X G c)
  have bad := ok_law_bad_ties (P := P) (w := w) (base := base) T (f_law_bad_ties X G c)
  have ltold := ok_law_told T (h_free_ValueError X G c) (h_CrowdError X G c) tP.g tT.g tM.g XP XT XM bad xmost xfull xpart xtold xwith (f_law_told X G c)
  exact ok_law T kF ltold most full told F
end SC
open PySem PySem.W PySem.Calls PyProof.Rows
theorem PySem.Challenge.cw_surecrowd_k05_refused_holds : PySem.Challenge.rw_surecrowd_k05_refused.Holds := by
  w_on; o_law
  refine HandSHeadRun.head_any (r := PySem.W.OpenLaw.row PySem.Challenge.rw_surecrowd_k05_refused) (q := PySem.W.view (PySem.W.OpenLaw.row PySem.Challenge.rw_surecrowd_k05_refused).prog [35]) (H := SC.hk) (ob := SC.hob) (M := 20000) (loose := SC.hnames) (d := HandSHeadRun.topDef (PySem.W.OpenLaw.row PySem.Challenge.rw_surecrowd_k05_refused).prog 35) (kwd := []) SC.hob_eq
    (by kernel_rfl) (fun s => by kernel_rfl) SC.hrun (by kernel_rfl) (by kernel_rfl) (by kernel_rfl) (by rfl) (by first | assumption | decide +kernel) (by decide +kernel) ⟨rfl, rfl, rfl, rfl, rfl, by decide +kernel⟩ ?hw ?hc
  case hw => w_witness2
  case hc =>
    refine SC.walk_ofEB (l := PySem.Challenge.rw_surecrowd_k05_refused) (n := 63) (k := 7) (x := "_law_script") (CX := L2.CX0) rfl (by decide) (by kernel_rfl) ⟨rfl, by decide, by decide⟩ ?F (fun _ _ _ _ z => z)
    intro w mg fa h Y G hmg0
    obtain ⟨K, KX, c, cx⟩ := Y
    have hmg : mg ("law" : PySem.Str) = some (.ref fa) := by
      have e : (HandSHeadRun.topDef (PySem.W.OpenLaw.row PySem.Challenge.rw_surecrowd_k05_refused).prog 35).name = ("law" : PySem.Str) := by kernel_rfl
      rw [← e]
      exact hmg0
    obtain ⟨fd, hb, hF⟩ := SC.facts (P := (PySem.Challenge.rw_surecrowd_k05_refused).prog) (w := w) KX G hmg c cx
    exact ⟨K, fd, SC.spLaw4 K, KX, hb, fun H a ns hl hbits _ hS => SC.spLaw4_use hl hbits hS, hF⟩

#print axioms PySem.Challenge.cw_surecrowd_k05_refused_holds
