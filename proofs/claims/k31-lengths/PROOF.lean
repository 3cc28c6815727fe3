import PyProof.Rows.All
import Wide.All
import OpenK.AllK
import Wide.FinOn
import HandS.ForMost
import HandS.Evl
import HandS.Star
import HandS.Strs
import HandS.SetFor
import HandS.IsInst
import HandS.TupAny
import HandS.Conv
import HandS.Walk
import KE.GoesMore
import PySem.Challenge.RW_saidcounts_k31_whole_lengths_paid
set_option Elab.async false
set_option linter.all false
set_option maxRecDepth 100000
set_option maxHeartbeats 4000000
/-! Data over the layer: what a value stands for, whatever its address. -/
namespace K31
open PySem PySem.Spec PyProof.Rows L2 Evl StX

mutual
inductive Ds (H : Hp) : V → PyData → Prop
  | non : Ds H .non .none
  | bl (b : Bool) : Ds H (.bl b) (.bool b)
  | int (i : Int) : Ds H (.int i) (.int i)
  | str (x : Str) : Ds H (.str x) (.str x)
  | lst {a : Addr} {xs : List V} {ds : List PyData} : H a = some (.lst xs) → DsAll H xs ds → Ds H (.ref a) (.list ds)
  | tup {a : Addr} {xs : List V} {ds : List PyData} : H a = some (.tup xs) → DsAll H xs ds → Ds H (.ref a) (.tuple ds)
inductive DsAll (H : Hp) : List V → List PyData → Prop
  | nil : DsAll H [] []
  | cons {v : V} {vs : List V} {d : PyData} {ds : List PyData} : Ds H v d → DsAll H vs ds → DsAll H (v :: vs) (d :: ds)
end
mutual
theorem Ds.dp {K : PySem.W.Frag} {H : Hp} : ∀ (d : PyData) (v : V), Ds H v d → Dp K H v d
  | .none, _, h => by cases h; exact .non
  | .bool b, _, h => by cases h; exact .bl b
  | .int i, _, h => by cases h; exact .int i
  | .str x, _, h => by cases h; exact .str x
  | .list ds, _, h => by
    cases h with
    | lst e q => exact .lst (SqL.of e) (DsAll.dp ds _ q)
  | .tuple ds, _, h => by
    cases h with
    | tup e q => exact .tup (SqT.of e) (DsAll.dp ds _ q)
  | .dict _, _, h => by cases h
theorem DsAll.dp {K : PySem.W.Frag} {H : Hp} : ∀ (ds : List PyData) (vs : List V), DsAll H vs ds → DpAll K H vs ds
  | [], _, h => by cases h; exact .nil
  | d :: ds, _, h => by
    cases h with
    | cons a b => exact .cons (Ds.dp d _ a) (DsAll.dp ds _ b)
end
mutual
theorem ds_up {H H' : Hp} (k : ∀ a o, H a = some o → H' a = some o) : ∀ (d : PyData) (v : V), Ds H v d → Ds H' v d
  | .none, _, h => by cases h; exact .non
  | .bool b, _, h => by cases h; exact .bl b
  | .int i, _, h => by cases h; exact .int i
  | .str x, _, h => by cases h; exact .str x
  | .list ds, _, h => by
    cases h with
    | lst e q => exact .lst (k _ _ e) (dsAll_up k ds _ q)
  | .tuple ds, _, h => by
    cases h with
    | tup e q => exact .tup (k _ _ e) (dsAll_up k ds _ q)
  | .dict _, _, h => by cases h
theorem dsAll_up {H H' : Hp} (k : ∀ a o, H a = some o → H' a = some o) : ∀ (ds : List PyData) (vs : List V), DsAll H vs ds → DsAll H' vs ds
  | [], _, h => by cases h; exact .nil
  | d :: ds, _, h => by
    cases h with
    | cons a b => exact .cons (ds_up k d _ a) (dsAll_up k ds _ b)
end
/-- data with no list within -/
inductive LF : PyData → Prop
  | non : LF .none
  | bl (b : Bool) : LF (.bool b)
  | int (i : Int) : LF (.int i)
  | str (x : Str) : LF (.str x)
  | tup {ds : List PyData} : (∀ d ∈ ds, LF d) → LF (.tuple ds)
mutual
theorem ds_set {H : Hp} {l : Addr} {o u : HO} (hl : H l = some u) (nt : ∀ xs, u ≠ .tup xs) : ∀ (d : PyData) (v : V), LF d → Ds H v d → Ds (upd H l o) v d
  | .none, _, _, h => by cases h; exact .non
  | .bool b, _, _, h => by cases h; exact .bl b
  | .int i, _, _, h => by cases h; exact .int i
  | .str x, _, _, h => by cases h; exact .str x
  | .list ds, _, f, h => by cases f
  | .tuple ds, _, f, h => by
    cases h with
    | tup e q =>
      cases f with
      | tup f =>
        refine .tup ?_ (dsAll_set hl nt ds _ f q)
        rw [upd_ne (ne_of e hl (Ne.symm (nt _)))]
        exact e
  | .dict _, _, _, h => by cases h
theorem dsAll_set {H : Hp} {l : Addr} {o u : HO} (hl : H l = some u) (nt : ∀ xs, u ≠ .tup xs) : ∀ (ds : List PyData) (vs : List V), (∀ d ∈ ds, LF d) → DsAll H vs ds → DsAll (upd H l o) vs ds
  | [], _, _, h => by cases h; exact .nil
  | d :: ds, _, f, h => by
    cases h with
    | cons a b => exact .cons (ds_set hl nt d _ (f d List.mem_cons_self) a) (dsAll_set hl nt ds _ (fun e he => f e (List.mem_cons_of_mem _ he)) b)
end

section
variable {K : PySem.W.Frag} {H H' : Hp} {v : V} {d : PyData} {vs : List V} {ds : List PyData}
theorem Ds.mono (e : Ex H H') (h : Ds H v d) : Ds H' v d := ds_up e d v h
theorem DsAll.mono (e : Ex H H') (h : DsAll H vs ds) : DsAll H' vs ds := dsAll_up e ds vs h
theorem Ds.setL {l : Addr} {xs : List V} {o : HO} (hl : H l = some (.lst xs)) (f : LF d) (h : Ds H v d) : Ds (upd H l o) v d := ds_set hl (by intro z q; cases q) d v f h
theorem DsAll.setL {l : Addr} {xs : List V} {o : HO} (hl : H l = some (.lst xs)) (f : ∀ d ∈ ds, LF d) (h : DsAll H vs ds) : DsAll (upd H l o) vs ds := dsAll_set hl (by intro z q; cases q) ds vs f h
theorem DsAll.setD {l : Addr} {kvs : List (Key × V)} {o : HO} (hl : H l = some (.dK kvs)) (f : ∀ d ∈ ds, LF d) (h : DsAll H vs ds) : DsAll (upd H l o) vs ds := dsAll_set hl (by intro z q; cases q) ds vs f h
theorem DsAll.length : ∀ {vs : List V} {ds : List PyData}, DsAll H vs ds → vs.length = ds.length
  | _, _, .nil => rfl
  | _, _, .cons _ b => congrArg (· + 1) (DsAll.length b)
theorem DsAll.get : ∀ {vs : List V} {ds : List PyData} {i : Nat} {v : V}, DsAll H vs ds → vs[i]? = some v → ∃ d, ds[i]? = some d ∧ Ds H v d
  | _, _, _, _, .nil, h => by simp at h
  | _, _, 0, _, .cons a _, h => by
    have e := Option.some.inj h
    rw [← e]
    exact ⟨_, rfl, a⟩
  | _, _, i + 1, v, .cons _ b, h => DsAll.get (i := i) b h
theorem DsAll.at : ∀ {vs : List V} {ds : List PyData} {i : Nat} {d : PyData}, DsAll H vs ds → ds[i]? = some d → ∃ v, vs[i]? = some v ∧ Ds H v d
  | _, _, _, _, .nil, h => by simp at h
  | _, _, 0, _, .cons a _, h => by
    have e := Option.some.inj h
    rw [← e]
    exact ⟨_, rfl, a⟩
  | _, _, i + 1, v, .cons _ b, h => DsAll.at (i := i) b h
theorem DsAll.app : ∀ {vs ws : List V} {ds es : List PyData}, DsAll H vs ds → DsAll H ws es → DsAll H (vs ++ ws) (ds ++ es)
  | _, _, _, _, .nil, h => h
  | _, _, _, _, .cons a b, h => .cons a (DsAll.app b h)
theorem DsAll.one (h : Ds H v d) : DsAll H [v] [d] := .cons h .nil
theorem DsAll.take : ∀ {vs : List V} {ds : List PyData} (n : Nat), DsAll H vs ds → DsAll H (vs.take n) (ds.take n)
  | _, _, 0, _ => .nil
  | _, _, _ + 1, .nil => .nil
  | _, _, n + 1, .cons a b => .cons a (DsAll.take n b)
theorem DsAll.drop : ∀ {vs : List V} {ds : List PyData} (n : Nat), DsAll H vs ds → DsAll H (vs.drop n) (ds.drop n)
  | _, _, 0, h => h
  | _, _, _ + 1, .nil => .nil
  | _, _, n + 1, .cons _ b => DsAll.drop n b
theorem DsAll.set (h : Ds H v d) : ∀ {vs : List V} {ds : List PyData} (n : Nat), DsAll H vs ds → DsAll H (vs.set n v) (ds.set n d)
  | _, _, _, .nil => .nil
  | _, _, 0, .cons _ b => .cons h b
  | _, _, n + 1, .cons a b => .cons a (DsAll.set h n b)
theorem Ds.inj_int {i : Int} (h : Ds H v (.int i)) : v = .int i := by cases h; rfl
theorem Ds.inj_str {x : Str} (h : Ds H v (.str x)) : v = .str x := by cases h; rfl
theorem Ds.inj_list (h : Ds H v (.list ds)) : ∃ a xs, v = .ref a ∧ H a = some (.lst xs) ∧ DsAll H xs ds := by
  cases h with
  | lst e q => exact ⟨_, _, rfl, e, q⟩
theorem Ds.inj_tup (h : Ds H v (.tuple ds)) : ∃ a xs, v = .ref a ∧ H a = some (.tup xs) ∧ DsAll H xs ds := by
  cases h with
  | tup e q => exact ⟨_, _, rfl, e, q⟩
/-- ints -/
def dI (n : Nat) : PyData := .int (n : Int)
def vI (n : Nat) : V := .int (n : Int)
theorem dsAll_I : ∀ {ns : List Nat} {vs : List V}, DsAll H vs (ns.map dI) → vs = ns.map vI
  | [], _, .nil => rfl
  | n :: ns, _, .cons a b => by
    rw [a.inj_int, dsAll_I b]
    rfl
theorem I_dsAll : ∀ {ns : List Nat}, DsAll H (ns.map vI) (ns.map dI)
  | [] => .nil
  | n :: ns => .cons (.int _) I_dsAll
theorem vI_int (ns : List Nat) : ns.map vI = (ns.map Int.ofNat).map V.int := by
  rw [List.map_map]
  rfl
theorem lf_I {ns : List Nat} : ∀ d ∈ ns.map dI, LF d := fun d h => by
  obtain ⟨n, _, rfl⟩ := List.mem_map.mp h
  exact .int _
end

/-! ### what evaluates to what data -/
def EvD (te : TE) (σ : L2.St) (H : Hp) (d : PyData) : Prop := ∀ H1, Ex H H1 → ∀ Q : VK, (∀ v H2, Ex H1 H2 → Ds H2 v d → Q v H2) → te σ H1 Q
/-- a new list with such items -/
def EvM (te : TE) (σ : L2.St) (H : Hp) (ds : List PyData) : Prop := ∀ H1, Ex H H1 → ∀ Q : VK, (∀ p xs H2, H1 p = none → Ex H1 H2 → H2 p = some (.lst xs) → DsAll H2 xs ds → Q (.ref p) H2) → te σ H1 Q
def EvDA (ta : TA) (σ : L2.St) (H : Hp) (ds : List PyData) : Prop := ∀ H1, Ex H H1 → ∀ Q : List V → Hp → Prop, (∀ vs H2, Ex H1 H2 → DsAll H2 vs ds → Q vs H2) → ta σ H1 Q

section
variable {K : PySem.W.Frag} {σ : L2.St} {H H' : Hp} {ta tb te tx : TE} {t u : TT} {v : V} {d e : PyData} {ds es : List PyData} {r : R2}
theorem EvD.mono (x : Ex H H') (h : EvD te σ H d) : EvD te σ H' d := fun H1 a Q q => h H1 (x.trans a) Q q
theorem EvM.mono (x : Ex H H') (h : EvM te σ H ds) : EvM te σ H' ds := fun H1 a Q q => h H1 (x.trans a) Q q
theorem ed_ev (h : Ev te σ H v) (hd : Ds H v d) : EvD te σ H d := fun H1 a Q q => h H1 a Q fun H2 b => q v H2 b (hd.mono (a.trans b))
theorem ed_I {n : Nat} (h : Ev te σ H (vI n)) : EvD te σ H (dI n) := ed_ev h (.int _)
theorem ed_int {i : Int} (h : Ev te σ H (.int i)) : EvD te σ H (.int i) := ed_ev h (.int _)
theorem ed_str {x : Str} (h : Ev te σ H (.str x)) : EvD te σ H (.str x) := ed_ev h (.str _)
theorem ed_bl {b : Bool} (h : Ev te σ H (.bl b)) : EvD te σ H (.bool b) := ed_ev h (.bl _)
theorem ev_int {i : Int} (h : EvD te σ H (.int i)) : Ev te σ H (.int i) := fun H1 a Q q => h H1 a Q fun v H2 b c => by
  rw [c.inj_int]
  exact q H2 b
theorem ev_str {x : Str} (h : EvD te σ H (.str x)) : Ev te σ H (.str x) := fun H1 a Q q => h H1 a Q fun v H2 b c => by
  rw [c.inj_str]
  exact q H2 b
theorem ev_bl {b : Bool} (h : EvD te σ H (.bool b)) : Ev te σ H (.bl b) := fun H1 a Q q => h H1 a Q fun v H2 x c => by
  cases c
  exact q H2 x
theorem ev_non (h : EvD te σ H .none) : Ev te σ H .non := fun H1 a Q q => h H1 a Q fun v H2 x c => by
  cases c
  exact q H2 x
theorem ed_var {i : Nat} (h : σ[i]? = some (some v)) (hd : Ds H v d) : EvD (tVar i) σ H d := ed_ev (ev_var h) hd
theorem ed_m (h : EvM te σ H ds) : EvD te σ H (.list ds) := fun H1 a Q q => h H1 a Q fun p xs H2 _ b e c => q _ H2 b (.lst e c)
theorem em_of {xs : List V} (h : EvL te σ H xs) (hd : ∀ H1, Ex H H1 → DsAll H1 xs ds) : EvM te σ H ds := fun H1 a Q q => h H1 a Q fun p H2 n b e => q p xs H2 n b e (hd H2 (a.trans b))
theorem em_I {ns : List Nat} (h : EvL te σ H (ns.map vI)) : EvM te σ H (ns.map dI) := em_of h fun _ _ => I_dsAll
theorem el_I {ns : List Nat} (h : EvM te σ H (ns.map dI)) : EvL te σ H (ns.map vI) := fun H1 a Q q => h H1 a Q fun p xs H2 n b e c => q p H2 n b (by rw [e, dsAll_I c])
theorem ea_D : EvDA tNil σ H [] := fun H1 _ Q q => q [] H1 (Ex.refl H1) .nil
theorem ea_Dc {tr : TA} (h : EvD te σ H d) (hr : EvDA tr σ H ds) : EvDA (tCons te tr) σ H (d :: ds) := fun H1 a Q q =>
  h H1 a _ fun v H2 b c => hr H2 (a.trans b) _ fun vs H3 b2 c2 => q (v :: vs) H3 (b.trans b2) (.cons (c.mono b2) c2)
theorem ed_tup {ta : TA} (h : EvDA ta σ H ds) (hl : ds.length ≤ 100000) : EvD (tTup ta) σ H (.tuple ds) := fun H1 a Q q =>
  h H1 a _ fun vs H2 b c => ⟨by rw [c.length]; exact sz_of hl, fun p hp => q _ _ (b.trans (Ex.new hp)) (.tup upd_same (c.mono (Ex.new hp)))⟩
theorem em_lst {ta : TA} (h : EvDA ta σ H ds) (hl : ds.length ≤ 100000) : EvM (tLst ta) σ H ds := fun H1 a Q q =>
  h H1 a _ fun vs H2 b c => ⟨by rw [c.length]; exact sz_of hl, fun p hp => q p vs _ (fresh_back b hp) (b.trans (Ex.new hp)) upd_same (c.mono (Ex.new hp))⟩
/-- (*row, e, ..) -/
theorem ea_star {tr : TA} (h : EvD te σ H (.tuple es)) (hr : EvDA tr σ H ds) : EvDA (tStar K te tr) σ H (es ++ ds) := fun H1 a Q q =>
  h H1 a _ fun v H2 b c => by
    obtain ⟨p, xs, rfl, hp, hx⟩ := c.inj_tup
    exact ⟨p, xs, rfl, .inl (SqT.of hp), hr H2 (a.trans b) _ fun ys H3 b2 c2 => q _ H3 (b.trans b2) ((hx.mono b2).app c2)⟩

/-! ### operators over data -/
theorem et_eqD {b : Bool} (ha : EvD ta σ H d) (hb : EvD tb σ H e) (h1 : SeqAt.shaped d = true) (h2 : SeqAt.shaped e = true) (hv : PyData.eqv d e = b) : Ev (tOp (rEqD K) ta tb) σ H (.bl b) := fun H1 a Q q =>
  ha H1 a _ fun v H2 a2 c => hb H2 (a.trans a2) _ fun w H3 a3 c3 => ⟨d, e, Ds.dp _ _ (c.mono a3), Ds.dp _ _ c3, h1, h2, by
    rw [hv]
    exact q H3 (a2.trans a3)⟩
theorem et_neD {b : Bool} (ha : EvD ta σ H d) (hb : EvD tb σ H e) (h1 : SeqAt.shaped d = true) (h2 : SeqAt.shaped e = true) (hv : (!PyData.eqv d e) = b) : Ev (tOp (rNeD K) ta tb) σ H (.bl b) := fun H1 a Q q =>
  ha H1 a _ fun v H2 a2 c => hb H2 (a.trans a2) _ fun w H3 a3 c3 => ⟨d, e, Ds.dp _ _ (c.mono a3), Ds.dp _ _ c3, h1, h2, by
    rw [hv]
    exact q H3 (a2.trans a3)⟩
/-- xs[i], t[i] -/
theorem ed_ixL {i : Int} (ha : EvD ta σ H (.list ds)) (hb : Ev tb σ H (.int i)) (hx : atI ds i = some d) : EvD (tOp (rIxL K) ta tb) σ H d := fun H1 a Q q =>
  ha H1 a _ fun v H2 a2 c => hb H2 (a.trans a2) _ fun H3 a3 => by
    obtain ⟨p, xs, rfl, hp, hx2⟩ := (c.mono a3).inj_list
    have e := hx2.length
    unfold atI at hx
    cases hj : ixN ds.length i with
    | none => rw [hj] at hx; cases hx
    | some j =>
      rw [hj] at hx
      obtain ⟨w, hw, hd⟩ := hx2.at hx
      exact ⟨p, xs, i, w, rfl, rfl, SqL.of hp, by unfold atI; rw [e, hj]; exact hw, q w H3 (a2.trans a3) hd⟩
theorem ed_ixT {i : Int} (ha : EvD ta σ H (.tuple ds)) (hb : Ev tb σ H (.int i)) (hx : atI ds i = some d) : EvD (tOp (rIxT K) ta tb) σ H d := fun H1 a Q q =>
  ha H1 a _ fun v H2 a2 c => hb H2 (a.trans a2) _ fun H3 a3 => by
    obtain ⟨p, xs, rfl, hp, hx2⟩ := (c.mono a3).inj_tup
    have e := hx2.length
    unfold atI at hx
    cases hj : ixN ds.length i with
    | none => rw [hj] at hx; cases hx
    | some j =>
      rw [hj] at hx
      obtain ⟨w, hw, hd⟩ := hx2.at hx
      exact ⟨p, xs, i, w, rfl, rfl, SqT.of hp, by unfold atI; rw [e, hj]; exact hw, q w H3 (a2.trans a3) hd⟩
/-- len -/
theorem ev_lenDL (ha : EvD ta σ H (.list ds)) : Ev (tCB (rLenS K) (tCons ta tNil)) σ H (vI ds.length) := fun H1 a Q q => ha H1 a _ fun v H2 a2 c => by
  obtain ⟨p, xs, rfl, hp, hx⟩ := c.inj_list
  refine ⟨p, xs, rfl, .inl (SqL.of hp), ?_⟩
  rw [hx.length]
  exact q H2 a2
theorem ev_lenDT (ha : EvD ta σ H (.tuple ds)) : Ev (tCB (rLenS K) (tCons ta tNil)) σ H (vI ds.length) := fun H1 a Q q => ha H1 a _ fun v H2 a2 c => by
  obtain ⟨p, xs, rfl, hp, hx⟩ := c.inj_tup
  refine ⟨p, xs, rfl, .inr (SqT.of hp), ?_⟩
  rw [hx.length]
  exact q H2 a2
/-- xs + ys, xs * k, of new lists -/
theorem em_cat (ha : EvD ta σ H (.list ds)) (hb : EvD tb σ H (.list es)) (hl : ds.length + es.length ≤ 100000) : EvM (tOp rCat ta tb) σ H (ds ++ es) := fun H1 a Q q =>
  ha H1 a _ fun v H2 a2 c => hb H2 (a.trans a2) _ fun w H3 a3 c3 => by
    obtain ⟨p, xs, rfl, hp, hx⟩ := (c.mono a3).inj_list
    obtain ⟨p2, ys, rfl, hp2, hy⟩ := c3.inj_list
    refine ⟨p, p2, xs, ys, rfl, rfl, hp, hp2, ?_, fun z hz => ?_⟩
    · rw [hx.length, hy.length]; exact sz_of hl
    · exact q z _ _ (fresh_back (a2.trans a3) hz) ((a2.trans a3).trans (Ex.new hz)) upd_same ((hx.mono (Ex.new hz)).app (hy.mono (Ex.new hz)))
theorem DsAll.rep {vs : List V} (h : DsAll H vs [d]) : ∀ n, DsAll H ((List.replicate n vs).flatten) (List.replicate n d)
  | 0 => .nil
  | n + 1 => DsAll.app h (DsAll.rep h n)
end
end K31

set_option maxRecDepth 100000
set_option maxHeartbeats 4000000
/-! promises, statements, loops and comprehensions over data -/
namespace K31
open PySem PySem.Spec PyProof.Rows L2 Evl StX

/-- a promise: data in, data out, what stood stands -/
def SpF (pre : List PyData → PyData → Prop) : Sp := fun vs H Q _ => ∃ ds d, DsAll H vs ds ∧ pre ds d ∧ ∀ v H', Ex H H' → Ds H' v d → Q v H'

section
variable {K : PySem.W.Frag} {σ : L2.St} {H H' : Hp} {ta tb te tl : TE} {t u tt : TT} {v : V} {d e : PyData} {ds es : List PyData} {r : R2} {D : Ends} {tu tw tz : TS} {g : TG}
theorem ed_call {pre : List PyData → PyData → Prop} {E : XK} {ta : TA} (h : EvDA ta σ H ds) (hp : pre ds d) : EvD (tCall (SpF pre) [] E ta) σ H d := fun H1 a Q q =>
  h H1 a _ fun vs H2 b c => ⟨ds, d, by rw [List.append_nil]; exact c, hp, fun v H3 e3 hv => q v H3 (b.trans e3) hv⟩

/-! ### statements -/
theorem s_asgD {i : Nat} (h : EvD te σ H d) (k : ∀ v H1, Ex H H1 → Ds H1 v d → D.nx (σ.set i (some v)) H1) : tAsg te (gName i) D σ H := h H (Ex.refl H) _ fun v H1 e hv => k v H1 e hv
theorem q_asgD {i : Nat} (h : EvD te σ H d) (k : ∀ v H1, Ex H H1 → Ds H1 v d → tz D (σ.set i (some v)) H1) : tSeq (tAsg te (gName i)) tz D σ H := s_asgD (D := { D with nx := tz D }) h k
theorem s_asgM {i : Nat} (h : EvM te σ H ds) (k : ∀ p xs H1, H p = none → Ex H H1 → H1 p = some (.lst xs) → DsAll H1 xs ds → D.nx (σ.set i (some (.ref p))) H1) : tAsg te (gName i) D σ H := h H (Ex.refl H) _ fun p xs H1 n e hp hx => k p xs H1 n e hp hx
theorem q_asgM {i : Nat} (h : EvM te σ H ds) (k : ∀ p xs H1, H p = none → Ex H H1 → H1 p = some (.lst xs) → DsAll H1 xs ds → tz D (σ.set i (some (.ref p))) H1) : tSeq (tAsg te (gName i)) tz D σ H := s_asgM (D := { D with nx := tz D }) h k
theorem s_retD (h : EvD te σ H d) (k : ∀ v H1, Ex H H1 → Ds H1 v d → D.rt v H1) : tRet te D σ H := h H (Ex.refl H) _ k
theorem s_dropD (h : EvD te σ H d) (k : ∀ H1, Ex H H1 → D.nx σ H1) : tDrop te D σ H := h H (Ex.refl H) _ fun _ H1 e _ => k H1 e
theorem q_dropD (h : EvD te σ H d) (k : ∀ H1, Ex H H1 → tz D σ H1) : tSeq (tDrop te) tz D σ H := s_dropD (D := { D with nx := tz D }) h k
/-- xs.append(e), e some data with no list in it -/
theorem s_appD {l : Addr} {xs : List V} (hl : H l = some (.lst xs)) (hx : DsAll H xs ds) (hf : ∀ d ∈ ds, LF d) (ha : Ev ta σ H (.ref l)) (h : EvD te σ H d) (hd : LF d) (hz : ds.length < 100000)
    (k : ∀ v H1, Ex H H1 → H1 l = some (.lst xs) → DsAll (upd H1 l (.lst (xs ++ [v]))) (xs ++ [v]) (ds ++ [d]) → D.nx σ (upd H1 l (.lst (xs ++ [v])))) :
    tDrop (tBM K "list" rAppend ta (tCons te tNil)) D σ H := ha H (Ex.refl H) _ fun H1 e1 =>
  ⟨Or.inl ⟨rfl, xs, sq_of (e1 l _ hl)⟩, h H1 e1 _ fun v H2 e2 hv => ⟨l, xs, v, rfl, rfl, e2 l _ (e1 l _ hl), by rw [hx.length]; exact sz_lt hz,
    k v H2 (e1.trans e2) (e2 l _ (e1 l _ hl)) (DsAll.app (DsAll.setL (e2 l _ (e1 l _ hl)) hf (hx.mono (e1.trans e2))) (.one (hv.setL (e2 l _ (e1 l _ hl)) hd)))⟩⟩

/-! ### loops -/
/-- a text's letters as numbers -/
def wd (w : List Nat) : Str := ⟨w.toArray⟩
theorem wd_tl (w : List Nat) : (wd w).cps.toList = w := by simp [wd]
theorem wd_len (w : List Nat) : (wd w).length = w.length := by simp [wd, Str.length]
theorem wd_app (a b : List Nat) : wd a ++ wd b = wd (a ++ b) := TL.ext_tl (by rw [TL.tl_append]; rfl)
theorem wd_inj {a b : List Nat} (h : wd a = wd b) : a = b := by
  have := congrArg (fun z : Str => z.cps.toList) h
  simpa [wd] using this
theorem wd_one (c : Nat) : (⟨#[c]⟩ : Str) = wd [c] := rfl
theorem s_forS {w : List Nat} {j : Nat} (h : Ev te σ H (.str (wd w))) (Pv : Nat → L2.St → Hp → Prop) (h0 : ∀ H1, Ex H H1 → Pv 0 σ H1)
    (hs : ∀ i c σ' H', w[i]? = some c → Pv i σ' H' → tu { D with nx := Pv (i + 1), ct := Pv (i + 1), bk := D.nx } (σ'.set j (some (.str (wd [c])))) H') (hd : ∀ σ' H', Pv w.length σ' H' → D.nx σ' H') : tFor (iStr te) (gName j) tu D σ H :=
  h H (Ex.refl H) _ fun H1 e => ⟨wd w, rfl, for_it walk_str Pv (h0 H1 e) (fun _ _ _ _ _ => trivial) (fun i x σ' H2 H3 hi hp y => by
    obtain ⟨e1, c, hc, e2⟩ := y
    subst e1 e2
    refine hs i c σ' _ ?_ hp
    rw [← hc]
    simp [wd]) (fun σ' H' hp => hd σ' H' (by
      have e : (wd w).cps.size = w.length := by simp [wd]
      rw [e] at hp
      exact hp))⟩
theorem q_forS {w : List Nat} {j : Nat} (h : Ev te σ H (.str (wd w))) (Pv : Nat → L2.St → Hp → Prop) (h0 : ∀ H1, Ex H H1 → Pv 0 σ H1)
    (hs : ∀ i c σ' H', w[i]? = some c → Pv i σ' H' → tu { D with nx := Pv (i + 1), ct := Pv (i + 1), bk := tz D } (σ'.set j (some (.str (wd [c])))) H') (hd : ∀ σ' H', Pv w.length σ' H' → tz D σ' H') : tSeq (tFor (iStr te) (gName j) tu) tz D σ H :=
  s_forS (D := { D with nx := tz D }) h Pv h0 hs hd
/-- over a list that stands at a place -/
theorem s_forA {a : Addr} {xs : List V} (h : Ev tl σ H (.ref a)) (hx : H a = some (.lst xs)) (Pv : Nat → L2.St → Hp → Prop) (h0 : ∀ H1, Ex H H1 → Pv 0 σ H1) (hl : ∀ i σ' H', Pv i σ' H' → H' a = some (.lst xs))
    (hs : ∀ i x σ' H', xs[i]? = some x → Pv i σ' H' → g x σ' H' fun σ2 H2 => tu { D with nx := Pv (i + 1), ct := Pv (i + 1), bk := D.nx } σ2 H2) (hd : ∀ σ' H', Pv xs.length σ' H' → D.nx σ' H') : tFor (iList K tl) g tu D σ H :=
  s_forL h (SqL.of hx) Pv h0 (fun i σ' H' _ p => SqL.of (hl i σ' H' p)) hs hd
theorem q_forA {a : Addr} {xs : List V} (h : Ev tl σ H (.ref a)) (hx : H a = some (.lst xs)) (Pv : Nat → L2.St → Hp → Prop) (h0 : ∀ H1, Ex H H1 → Pv 0 σ H1) (hl : ∀ i σ' H', Pv i σ' H' → H' a = some (.lst xs))
    (hs : ∀ i x σ' H', xs[i]? = some x → Pv i σ' H' → g x σ' H' fun σ2 H2 => tu { D with nx := Pv (i + 1), ct := Pv (i + 1), bk := tz D } σ2 H2) (hd : ∀ σ' H', Pv xs.length σ' H' → tz D σ' H') : tSeq (tFor (iList K tl) g tu) tz D σ H :=
  s_forA (D := { D with nx := tz D }) h hx Pv h0 hl hs hd

/-! ### comprehensions -/
theorem et_yes : EvT tYes σ H true := fun H1 _ Q q => q H1 (Ex.refl H1)
def CwD (H : Hp) (Dl : Addr) (ds : List PyData) (H' : Hp) : Prop := H Dl = none ∧ Ex H H' ∧ ∃ ys, H' Dl = some (.lst ys) ∧ DsAll H' ys ds
theorem cwd_turn {Dl : Addr} {f : Bool} {σ2 : L2.St} (p : CwD H Dl ds H') (hf : ∀ d ∈ ds, LF d) (hl : ds.length < 50000) (ht : EvT t σ2 H' f) (he : f = true → LF d ∧ EvD te σ2 H' d) :
    t σ2 H' fun b H3 => if b = true then te σ2 H3 fun y H4 => ∃ acc, H4 Dl = some (.lst acc) ∧ acc.length < sizeLine ∧ CwD H Dl (if f = true then ds ++ [d] else ds) (upd H4 Dl (.lst (acc ++ [y]))) else CwD H Dl (if f = true then ds ++ [d] else ds) H3 := by
  obtain ⟨p1, p2, ys, p3, p4⟩ := p
  refine ht H' (Ex.refl H') _ fun H3 e3 => ?_
  cases f with
  | true =>
    obtain ⟨hd, he⟩ := he rfl
    rw [if_pos rfl, if_pos rfl]
    refine he H3 e3 _ fun y H4 e4 hy => ?_
    have h4 : H4 Dl = some (.lst ys) := e4 Dl _ (e3 Dl _ p3)
    refine ⟨ys, h4, by rw [p4.length]; exact sz_lt (by omega), p1, Ex.mut ((p2.trans e3).trans e4) p1, ys ++ [y], upd_same, ?_⟩
    exact DsAll.app (DsAll.setL h4 hf (p4.mono (e3.trans e4))) (.one (hy.setL h4 hd))
  | false =>
    rw [if_neg Bool.false_ne_true, if_neg Bool.false_ne_true]
    exact ⟨p1, p2.trans e3, ys, e3 Dl _ p3, p4.mono e3⟩
def pick {α : Type} (L : List α) (f : α → Bool) (v : α → PyData) (i : Nat) : List PyData := ((L.take i).filter f).map v
theorem pick_succ {α : Type} {L : List α} {f : α → Bool} {v : α → PyData} {i : Nat} {a : α} (h : L[i]? = some a) : pick L f v (i + 1) = if f a = true then pick L f v i ++ [v a] else pick L f v i := by
  unfold pick
  rw [List.take_add_one, h, List.filter_append, List.map_append]
  cases hf : f a with
  | true =>
    rw [if_pos rfl]
    simp [hf]
  | false =>
    rw [if_neg Bool.false_ne_true]
    simp [hf]
theorem pick_len {α : Type} (L : List α) (f : α → Bool) (v : α → PyData) (i : Nat) : (pick L f v i).length ≤ L.length := by
  unfold pick
  rw [List.length_map]
  refine Nat.le_trans (List.length_filter_le _ _) ?_
  rw [List.length_take]
  exact Nat.min_le_right _ _
theorem pick_lf {α : Type} {L : List α} {f : α → Bool} {v : α → PyData} {i : Nat} (h : ∀ a ∈ L, f a = true → LF (v a)) : ∀ d ∈ pick L f v i, LF d := fun d hd => by
  obtain ⟨a, ha, rfl⟩ := List.mem_map.mp hd
  obtain ⟨h1, h2⟩ := List.mem_filter.mp ha
  exact h a (List.mem_of_mem_take h1) h2
theorem pick_all {α : Type} (L : List α) (f : α → Bool) (v : α → PyData) : pick L f v L.length = (L.filter f).map v := by
  unfold pick
  rw [List.take_length]
/-- over anything that yields without a change -/
theorem lcG {α : Type} {J : It} {G : Hp → Prop} {Y : Nat → Hp → V → Hp → Prop} {n : Nat} (w : Walk J n G Y) (L : List α) (hn : n = L.length) {vs : List Nat} (f : α → Bool) (v : α → PyData) (hz : L.length ≤ 40000) (hlf : ∀ a ∈ L, f a = true → LF (v a)) (H1 : Hp)
    (hG : ∀ H', Ex H1 H' → G H')
    (hs : ∀ (i : Nat) a x H2 H3, L[i]? = some a → Ex H1 H2 → Y i H2 x H3 → H3 = H2 ∧ ∀ R : L2.St → Hp → Prop, (∀ σ2, wipe σ2 vs = wipe σ vs → EvT tt σ2 H2 (f a) → (f a = true → EvD te σ2 H2 (v a)) → R σ2 H2) → g x (wipe σ vs) H2 R)
    (Dl : Addr) (hD : H1 Dl = none) (Qd : Hp → Prop) (hd : ∀ H' ys, Ex H1 H' → H' Dl = some (.lst ys) → DsAll H' ys ((L.filter f).map v) → Qd H') :
    ∃ W : Nat → Nat → Hp → Prop, (∃ m, W 0 m (upd H1 Dl (.lst []))) ∧ ∀ i m H, W i m H →
      (J.stop i H ∧ Qd H) ∨ (J.go i H ∧ ∃ Nx : Hp → Prop, (∀ H', Nx H' → ∃ m', m' < m ∧ W (i + 1) m' H') ∧ ∀ x H', J.yld i H x H' → g x (wipe σ vs) H' fun σ2 H2 => wipe σ2 vs = wipe σ vs ∧ tt σ2 H2 fun b H3 =>
        if b = true then te σ2 H3 fun y H4 => ∃ acc, H4 Dl = some (.lst acc) ∧ acc.length < sizeLine ∧ Nx (upd H4 Dl (.lst (acc ++ [y]))) else Nx H3) := by
  subst hn
  refine lc_it w (fun i => CwD H1 Dl (pick L f v i)) ⟨hD, Ex.new hD, [], upd_same, ?_⟩ (fun i H' _ p => hG H' p.2.1) (fun i x H2 H3 hi p y => ?_) (fun H' p => ?_)
  · show DsAll _ [] _
    unfold pick
    exact .nil
  · have ha : L[i]? = some L[i] := List.getElem?_eq_getElem hi
    obtain ⟨rfl, k⟩ := hs i L[i] x H2 H3 ha p.2.1 y
    refine k _ fun σ2 hw ht he => ⟨hw, ?_⟩
    rw [pick_succ ha]
    exact cwd_turn p (pick_lf hlf) (by have := pick_len L f v i; omega) ht fun hf => ⟨hlf _ (List.getElem_mem hi) hf, he hf⟩
  · obtain ⟨_, p2, ys, p3, p4⟩ := p
    rw [pick_all] at p4
    exact hd H' ys p2 p3 p4
theorem em_lcL {vs : List Nat} (f : PyData → Bool) (v : PyData → PyData) (h : EvD tl σ H (.list ds)) (hz : ds.length ≤ 40000) (hlf : ∀ d ∈ ds, f d = true → LF (v d))
    (hs : ∀ d ∈ ds, ∀ x H2, Ex H H2 → Ds H2 x d → ∀ R : L2.St → Hp → Prop, (∀ σ2, wipe σ2 vs = wipe σ vs → EvT tt σ2 H2 (f d) → (f d = true → EvD te σ2 H2 (v d)) → R σ2 H2) → g x (wipe σ vs) H2 R) :
    EvM (tLc (iList K tl) g tt te vs) σ H ((ds.filter f).map v) := fun H0 a Q q => h H0 a _ fun v0 H1 a1 c => by
  obtain ⟨p, xs, rfl, hp, hx⟩ := c.inj_list
  refine ⟨p, rfl, ⟨xs, SqL.of hp⟩, fun Dl hD => ?_⟩
  refine lcG (walk_list (xs := xs)) ds hx.length f v hz hlf H1 (fun H' e => SqL.of (e _ _ hp)) (fun i d x H2 H3 hi e2 y => ?_) Dl hD _ (fun H' ys e hD' hy => q Dl ys H' (fresh_back a1 hD) (a1.trans e) hD' hy)
  obtain ⟨y1, y2⟩ := y
  obtain ⟨d', hd1, hd2⟩ := (hx.mono e2).get y2
  have : d' = d := Option.some.inj (hd1.symm.trans hi)
  subst this
  exact ⟨y1, hs d' (List.mem_of_getElem? hi) x H2 ((a.trans a1).trans e2) hd2⟩
theorem em_lcS {vs : List Nat} {w : List Nat} (f : Nat → Bool) (v : Nat → PyData) (h : Ev tl σ H (.str (wd w))) (hz : w.length ≤ 40000) (hlf : ∀ c ∈ w, f c = true → LF (v c))
    (hs : ∀ c ∈ w, ∀ H2, Ex H H2 → ∀ R : L2.St → Hp → Prop, (∀ σ2, wipe σ2 vs = wipe σ vs → EvT tt σ2 H2 (f c) → (f c = true → EvD te σ2 H2 (v c)) → R σ2 H2) → g (.str (wd [c])) (wipe σ vs) H2 R) :
    EvM (tLc (iStr tl) g tt te vs) σ H ((w.filter f).map v) := fun H0 a Q q => h H0 a _ fun H1 a1 => by
  refine ⟨wd w, rfl, fun Dl hD => ?_⟩
  refine lcG walk_str w (by simp [wd]) f v hz hlf H1 (fun _ _ => trivial) (fun i c x H2 H3 hi e2 y => ?_) Dl hD _ (fun H' ys e hD' hy => q Dl ys H' (fresh_back a1 hD) (a1.trans e) hD' hy)
  obtain ⟨y1, c', hc, rfl⟩ := y
  have hc : w[i]? = some c' := by
    rw [← hc]
    simp [wd]
  have : c' = c := Option.some.inj (hc.symm.trans hi)
  subst this
  exact ⟨y1, hs c' (List.mem_of_getElem? hi) H2 ((a.trans a1).trans e2)⟩
theorem em_lcR {vs : List Nat} {wi : TI} (lo : Int) (n : Nat) (f : Nat → Bool) (v : Nat → PyData) (h : ∀ H1, Ex H H1 → ∀ R : It → Hp → Prop, (∀ H2, Ex H1 H2 → R (Itr lo n) H2) → wi σ H1 R) (hz : n ≤ 40000) (hlf : ∀ i, i < n → f i = true → LF (v i))
    (hs : ∀ i, i < n → ∀ H2, Ex H H2 → ∀ R : L2.St → Hp → Prop, (∀ σ2, wipe σ2 vs = wipe σ vs → EvT tt σ2 H2 (f i) → (f i = true → EvD te σ2 H2 (v i)) → R σ2 H2) → g (.int (lo + i)) (wipe σ vs) H2 R) :
    EvM (tLc wi g tt te vs) σ H (((List.range n).filter f).map v) := fun H0 a Q q => h H0 a _ fun H1 a1 Dl hD => by
  refine lcG walk_range (List.range n) (by simp) f v (by simpa using hz) (fun i hi => hlf i (List.mem_range.mp hi)) H1 (fun _ _ => trivial) (fun i c x H2 H3 hi e2 y => ?_) Dl hD _ (fun H' ys e hD' hy => q Dl ys H' (fresh_back a1 hD) (a1.trans e) hD' hy)
  obtain ⟨y1, y2⟩ := y
  have hc : c < n := List.mem_range.mp (List.mem_of_getElem? hi)
  have : i = c := by
    have hi' : i < n := by
      have := (List.getElem?_eq_some_iff.mp hi).1
      simpa using this
    rw [List.getElem?_range hi'] at hi
    exact Option.some.inj hi
  subst this
  rw [y2]
  exact ⟨y1, hs i hc H2 ((a.trans a1).trans e2)⟩
theorem rg1 {ta : TA} {n : Nat} (h : EvA ta σ H [vI n]) (hn : n ≤ 100000) : ∀ H1, Ex H H1 → ∀ R : It → Hp → Prop, (∀ H2, Ex H1 H2 → R (Itr 0 n) H2) → iRng1 ta σ H1 R := fun H1 a R q =>
  h H1 a _ fun H2 a2 => ⟨(n : Int), rfl, by omega, by omega, q H2 a2⟩
theorem rg2 {ta : TA} {lo n : Nat} (h : EvA ta σ H [vI lo, vI n]) (hn : lo ≤ 100000 ∧ n ≤ 100000) : ∀ H1, Ex H H1 → ∀ R : It → Hp → Prop, (∀ H2, Ex H1 H2 → R (Itr (lo : Int) (n - lo)) H2) → iRng2 ta σ H1 R := fun H1 a R q =>
  h H1 a _ fun H2 a2 => ⟨(lo : Int), (n : Int), rfl, ⟨by omega, by omega, by omega, by omega⟩, by
    have : ((n : Int) - (lo : Int)).toNat = n - lo := by omega
    rw [this]
    exact q H2 a2⟩
/-- targets -/
theorem g_name {j : Nat} {x : V} {R : L2.St → Hp → Prop} (h : R (σ.set j (some x)) H) : gName j x σ H R := h
theorem g_pair {i j : Nat} {x y z : V} {a : Addr} {R : L2.St → Hp → Prop} (hx : x = .ref a) (ha : H a = some (.tup [y, z])) (h : R ((σ.set i (some y)).set j (some z)) H) : gTup K 2 (gCons (gName i) (gCons (gName j) gNil)) x σ H R :=
  ⟨a, [y, z], hx, SqT.of ha, rfl, y, [z], rfl, z, [], rfl, rfl, h⟩
theorem Ds.pair (h : Ds H v (.tuple [d, e])) : ∃ a y z, v = .ref a ∧ H a = some (.tup [y, z]) ∧ Ds H y d ∧ Ds H z e := by
  obtain ⟨a, xs, rfl, ha, hx⟩ := h.inj_tup
  cases hx with
  | cons h1 h2 =>
    cases h2 with
    | cons h2 h3 =>
      cases h3
      exact ⟨a, _, _, rfl, ha, h1, h2⟩
end
end K31

set_option maxRecDepth 100000
set_option maxHeartbeats 4000000
/-! rules that the layer lacks: enumerate of a text, set of a list of ints, a letter times an int, xs[j] read for xs[j] += .. -/
namespace K31
open PySem PySem.Spec PyProof.Rows L2 Evl StX

/-! ### enumerate(text) -/
/-- sign by sign, each in a new pair -/
def Ites (x : Str) : It := ⟨fun i _ => i < x.cps.size, fun i H v H' => ∃ T c, x.cps[i]? = some c ∧ v = .ref T ∧ H T = none ∧ H' = upd H T (.tup [.int (i : Nat), .str ⟨#[c]⟩]), fun i _ => x.cps.size ≤ i⟩
def tnS (e it : Addr) (x : Str) (t : Tok) (i : Nat) (h : Heap) : Prop := (∃ old, IsEnum h e it ((i : Nat) : Int) old) ∧ h.IsStrIter it (strIterType x) x t i ∧ e ≠ it ∧ i ≤ x.cps.size
theorem turn_ites {P : Program} {w : World} {K : PySem.W.Frag} {es : List Expr} {k : Nat} {tp : Pos} (e it : Addr) (x : Str) (t : Tok) : Turn P w K (.Tuple es k tp) (Ites x) [e, it] e (tnS e it x t) := by
  refine ⟨List.mem_cons_self, ?_, ?_, ?_, ?_, ?_⟩
  · rintro i h ⟨⟨old, he⟩, ⟨o, ho, _, hd⟩, _, _⟩ b hb
    rcases List.mem_cons.mp hb with rfl | hb
    · exact ⟨_, he, fun v q => nomatch q⟩
    · rw [List.mem_singleton.mp hb]
      exact ⟨o, ho, fun v q => by rw [hd] at q; cases q⟩
  · rintro i h h' ⟨⟨old, he⟩, ⟨o, ho, r⟩, hne, hi⟩ kk
    exact ⟨⟨old, kk e List.mem_cons_self _ he⟩, ⟨o, kk it (List.mem_cons_of_mem _ List.mem_cons_self) o ho, r⟩, hne, hi⟩
  · intro X hP hw hK hc i pins s σ H E I hf st hg
    subst hP hw hK
    obtain ⟨⟨old, he⟩, hit, hne, _⟩ := st
    have dr := Draws.text (prog := X.prog) (w := X.w) (A := X.A.in1) (I.ok.hd hc) it x t
    have le : e < s.heap.objs.size := Heap.lt_size he
    have li : it < s.heap.objs.size := by obtain ⟨_, q, _⟩ := hit; exact Heap.lt_size q
    have hgi : i < x.cps.size := hg
    refine wpAny_pyNext_enum_itemD dr he hit hgi hne (fun q => hne (List.mem_singleton.mp q)) fun u h' tk pu ho st' hT hz hk => ?_
    obtain ⟨c, uu, hcx, rfl⟩ := pu
    refine ⟨_, rfl, wpAny_letOwnedTupleGo_enum (s := { s with heap := h', toks := tk + 1 }) ho fun h2 he2 sb => ?_⟩
    have hT2 : h2.get? s.heap.objs.size = some { cls := .type "tuple", data := .seq #[.int (i : Nat) tk, .str ⟨#[c]⟩ uu] } := (sb.2 _ (Nat.ne_of_gt le)).trans hT
    have nw : ObjOk X.prog X.w (upd H s.heap.objs.size (.tup [.int (i : Nat), .str ⟨#[c]⟩])) h2 s.heap.objs.size (.tup [.int (i : Nat), .str ⟨#[c]⟩]) :=
      ⟨by show 2 ≤ sizeLine; decide, [_, _], .cons ⟨_, rfl⟩ (.cons ⟨_, rfl⟩ .nil), ⟨_, hT2, rfl, _, rfl⟩⟩
    have keep2 : ∀ b o, b ∉ [e, it] → s.heap.get? b = some o → h2.get? b = some o := fun b o hb q => by
      have b1 : b ≠ e := fun z => hb (by rw [z]; exact List.mem_cons_self)
      have b2 : b ≠ it := fun z => hb (by rw [z]; exact List.mem_cons_of_mem _ List.mem_cons_self)
      exact (sb.2 b b1).trans (hk b o b1 b2 q)
    have I2 : Inv X pins σ (upd H s.heap.objs.size (.tup [.int (i : Nat), .str ⟨#[c]⟩])) { s with heap := h2, toks := tk + 1 } := I.turnedNew (ch := [e, it]) keep2 hf (Nat.le_refl _) nw
    refine ⟨.ref s.heap.objs.size, _, I2, rfl, ⟨_, c, hcx, rfl, I.hok.fresh (Nat.le_refl _), rfl⟩, ⟨⟨_, he2⟩, ?_, hne, hgi⟩, fun b hb => ?_⟩
    · obtain ⟨o, q, r⟩ := st'
      exact ⟨o, (sb.2 it (Ne.symm hne)).trans q, r⟩
    · have lb : b < s.heap.objs.size := by
        rcases List.mem_cons.mp hb with rfl | hb
        · exact le
        · rw [List.mem_singleton.mp hb]; exact li
      rw [upd_ne (Nat.ne_of_lt lb)]
      exact (hf b hb).1
  · intro X hP hw hK hc i pins s σ H E I hf st hg
    subst hP hw hK
    obtain ⟨⟨old, he⟩, hit, hne, hi⟩ := st
    have hgi : x.cps.size ≤ i := hg
    have ei : i = x.cps.size := Nat.le_antisymm hi hgi
    subst ei
    have dr := Draws.text (prog := X.prog) (w := X.w) (A := X.A.in1) (I.ok.hd hc) it x t
    obtain ⟨f0, f1, f2, f3, f4, f5⟩ := hf it (List.mem_cons_of_mem _ List.mem_cons_self)
    exact wpAny_pyNext_enum_endD dr he hit fun h' eb => ⟨rfl, I.turned (t' := s.toks) (fun b o hb q => eb b o hb q) f0 f1 f3 f4 f5⟩
  · rintro A i s Q E ⟨⟨_, he⟩, _⟩ h
    exact wpAny_pyIter_enum he h
def iEnS (ta : TA) : TI := fun σ H R => ta σ H fun vs H1 => ∃ x, vs = [.str x] ∧ R (Ites x) H1
theorem pi_enS {X : Cx} {e : Expr} {ta : TA} {p pos tp : Pos} {es : List Expr} {k : Nat} (hg : Gl X "enumerate") (hm : X.mg "enumerate" = none) (ha : PA X [e] ta) (hs : starEach [e] X.env = [(false, eval e X.env)] := by rfl) :
    PI X (.Tuple es k tp) (.Call (.Name "enumerate" p) [e] [] pos) (iEnS ta) := by
  constructor
  intro pins s σ H R I h
  refine Call_ (ld_blt I hg hm boot_enumerate (PyProof.Rows.callWith_type1 (thn (ha.run pos pins s σ H _ I h) fun us s1 z => ?_) hs rfl))
  obtain ⟨vs, H1, I1, r1, x, rfl, q⟩ := z
  obtain ⟨u, rfl, t, rfl⟩ := vals1 r1
  refine call_enumerate_str fun h' he hit hz hk => wpAny_pyIter_enum he ?_
  refine ⟨s1.heap.objs.size + 1, [s1.heap.objs.size + 1, s1.heap.objs.size], _, _, H1, rfl, I1.kept (t' := s1.toks) hk, turn_ites (s1.heap.objs.size + 1) s1.heap.objs.size x t, ⟨⟨_, he⟩, hit, Nat.succ_ne_self _, Nat.zero_le _⟩, fun b hb => ?_, q⟩
  have lb : s1.heap.objs.size ≤ b := by
    rcases List.mem_cons.mp hb with rfl | hb
    · exact Nat.le_succ _
    · rw [List.mem_singleton.mp hb]; exact Nat.le_refl _
  exact I1.fpOk lb (I1.hok.fresh lb)
theorem walk_ites {x : Str} : Walk (Ites x) x.cps.size (fun _ => True) (fun i H v H' => ∃ T c, x.cps[i]? = some c ∧ v = .ref T ∧ H T = none ∧ H' = upd H T (.tup [.int (i : Nat), .str ⟨#[c]⟩])) :=
  ⟨fun _ _ hi _ => hi, fun _ _ => Nat.le_refl _, fun _ _ _ _ _ _ y => y⟩

/-! ### a letter so many times -/
theorem mulOk_one {c : Nat} {n : Int} (h1 : -1000000 ≤ n) (h2 : n ≤ 1000000) : MulOk ⟨#[c]⟩ n := by
  refine ⟨?_, fun h3 _ => ?_, fun h3 _ => ?_⟩
  · rw [Bool.or_eq_false_iff, decide_eq_false_iff_not, decide_eq_false_iff_not]
    omega
  · show ¬ ((1 : Nat) : Int) > (2 ^ 63 - 1) / n
    have h4 : (1 : Int) ≤ (2 ^ 63 - 1) / n := by
      rw [Int.le_ediv_iff_mul_le (by omega)]
      omega
    omega
  · have e : (⟨#[c]⟩ : Str).length * n.toNat = n.toNat := by
      show 1 * n.toNat = n.toNat
      omega
    rw [e]
    refine decide_eq_false ?_
    rw [sizeLine_eq]
    omega
theorem mul_one (c : Nat) (n : Int) : Txt.mul (wd [c]) n = wd (List.replicate n.toNat c) := by
  unfold Txt.mul
  by_cases h : n < 1
  · rw [if_pos h]
    have e : n.toNat = 0 := by omega
    rw [e]
    rfl
  · rw [if_neg h]
    have key : ∀ (m : Nat) (acc : Array Nat), (List.replicate m (#[c] : Array Nat)).foldl (· ++ ·) acc = acc ++ (List.replicate m c).toArray := by
      intro m
      induction m with
      | zero => intro acc; simp
      | succ m ih =>
        intro acc
        rw [List.replicate_succ, List.foldl_cons, ih, List.replicate_succ]
        refine Array.toList_inj.mp ?_
        simp
    by_cases h1 : n = 1
    · subst h1
      rw [if_pos (by simp)]
      rfl
    · rw [if_neg (by simp [h1, wd, Str.length])]
      show (⟨(List.replicate n.toNat (#[c] : Array Nat)).foldl (· ++ ·) #[]⟩ : Str) = _
      rw [key]
      simp [wd]
def rMulS : R2 := fun x y H Q => ∃ (c : Nat) (n : Int), x = .str (wd [c]) ∧ y = .int n ∧ (-1000000 ≤ n ∧ n ≤ 1000000) ∧ Q (.str (wd (List.replicate n.toNat c))) H
theorem op_mulS {X : Cx} : OpR X (binaryOp .Mult) rMulS := by
  intro pins s σ H x y v u Q I rx ry h
  obtain ⟨c, n, rfl, rfl, hn, q⟩ := h
  obtain ⟨t, rfl⟩ := rx
  obtain ⟨t', rfl⟩ := ry
  refine SB.mul (mulOk_one hn.1 hn.2) fun tk k => ?_
  exact ⟨.str _, H, I.tok k, ⟨tk, by rw [mul_one]⟩, q⟩

/-! ### xs[j], j from 0 on, for xs[j] op= e -/
def rGetN (K : PySem.W.Frag) : V → V → Hp → VK → Prop := fun o i H Q => ∃ (p : Addr) (xs : List V) (j : Nat) (v : V), o = .ref p ∧ i = .int ((j : Nat) : Int) ∧ SqL K H p xs ∧ xs[j]? = some v ∧ Q v H
theorem get_list {X : Cx} : PGet X (rGetN X.K) := by
  intro pins s σ H o i ov iv Q I ro ri h
  obtain ⟨p, xs, j, v, rfl, rfl, hs, hv, q⟩ := h
  cases ro
  obtain ⟨t, rfl⟩ := ri
  obtain ⟨its, rv, pl, hz⟩ := I.list hs
  obtain ⟨u, hu, ru⟩ := rv.get hv
  have hj : j < sizeLine + 1 := by
    have := (List.getElem?_eq_some_iff.mp hv).1
    omega
  refine wpAny_getItem_list (x := u) pl.isList (Int.natCast_nonneg j) (by rw [sizeLine_eq] at hj; omega) ?_ ⟨v, H, I, ru, q⟩
  rw [Int.toNat_natCast, List.getElem?_toArray]
  exact hu

/-! ### how often a letter stands in a text -/
theorem chain_count (w : List Nat) (c : Nat) : ∀ (cuts : List Nat) (a f : Nat), StrLaws.ChainG (wd w) (wd [c]) (wd w).length a cuts f → (∀ k, f ≤ k → ¬ StrLaws.At (wd w) (wd [c]) (wd w).length k) → cuts.length = (w.drop a).count c
  | [], a, f, h, hn => by
    have e : f = a := h
    subst e
    show 0 = _
    refine (List.count_eq_zero.mpr fun hm => ?_).symm
    obtain ⟨j, hj⟩ := List.getElem?_of_mem hm
    rw [List.getElem?_drop] at hj
    exact hn (f + j) (Nat.le_add_right _ _) ((StrLaws.subAt_one (wd w) c (f + j)).mpr (by rw [wd_tl]; exact hj))
  | d :: r, a, f, ⟨h1, h2, h3, h4⟩, hn => by
    have ih := chain_count w c r (d + 1) f h4 hn
    have hd : w[d]? = some c := by
      have := (StrLaws.subAt_one (wd w) c d).mp h2
      rw [wd_tl] at this
      exact this
    obtain ⟨hl, e⟩ := List.getElem?_eq_some_iff.mp hd
    show r.length + 1 = _
    rw [ih]
    have split : w.drop a = (w.drop a).take (d - a) ++ c :: w.drop (d + 1) := by
      have e1 : (w.drop a).drop (d - a) = c :: w.drop (d + 1) := by
        rw [List.drop_drop, show a + (d - a) = d by omega, List.drop_eq_getElem_cons hl, e]
      rw [← e1, List.take_append_drop]
    rw [split, List.count_append, List.count_cons_self]
    have z : ((w.drop a).take (d - a)).count c = 0 := by
      refine List.count_eq_zero.mpr fun hm => ?_
      obtain ⟨j, hj⟩ := List.getElem?_of_mem hm
      have lj : j < d - a := by
        have := (List.getElem?_eq_some_iff.mp hj).1
        rw [List.length_take] at this
        omega
      rw [List.getElem?_take_of_lt lj, List.getElem?_drop] at hj
      exact h3 (a + j) (Nat.le_add_right _ _) (by omega) ((StrLaws.subAt_one (wd w) c (a + j)).mpr (by rw [wd_tl]; exact hj))
    omega
theorem count_one (w : List Nat) (c : Nat) : Txt.count (wd w) (wd [c]) = ((w.count c : Nat) : Int) := by
  obtain ⟨f, h1, h2⟩ := StrLaws.occ_tight (wd w) (wd [c]) (Nat.le_refl 1)
  have h := chain_count w c _ 0 f h1 h2
  rw [List.drop_zero] at h
  unfold Txt.count
  rw [← h]

/-! ### texts joined by nothing -/
theorem join_wd (ps : List (List Nat)) : Txt.join (wd []) (ps.map wd) = wd ps.flatten := by
  rw [TL.join_eq]
  refine TL.ext_tl ?_
  rw [TL.tl_join, List.map_map]
  have e : (TL.tl ∘ wd) = id := by
    funext w
    exact wd_tl w
  rw [e, List.map_id, show TL.tl (wd []) = [] from rfl, show TL.tl (wd ps.flatten) = ps.flatten from wd_tl _]
  induction ps with
  | nil => rfl
  | cons p ps ih =>
    cases ps with
    | nil => simp [TL.joinL]
    | cons q ps =>
      show p ++ ([] ++ TL.joinL [] (q :: ps)) = _
      rw [ih]
      simp
end K31

set_option maxRecDepth 100000
set_option maxHeartbeats 8000000
/-! set(a list of ints), and sorted of it -/
namespace K31
open PySem PySem.Spec PyProof.Rows L2 Evl StX
section
variable {P : Program} {w : World} {A : Around} {E : Value → Shared → Prop} {s : Shared}
abbrev freshSet (w : World) : Obj := { cls := .type "set", dict := none, data := .set #[] 0 (.fresh 0 0 (!w.params.followText "set-order")) }
theorem set_of_ints {l : Addr} {items : Array Value} (ns : List Int) {Q : Value → Shared → Prop} (hh : A.handled = none) (hl : s.heap.IsList l items) (hi : IntsAre items.toList ns) (hb : ns.length + 1 < scanBound)
    (h : ∀ (h2 : Heap) (k c : Nat), SetR w h2 s.heap.objs.size (fun j => decide (j ∈ ns)) c → c ≤ ns.length → (∀ b o, s.heap.get? b = some o → h2.get? b = some o) → Q (.ref s.heap.objs.size) { s with heap := h2, toks := k }) :
    wpAny (model P w) A (call (.type "set") [.ref l]) Q E s := by
  have hz : items.size = ns.length := by have q := IntsAre.length hi; rw [Array.length_toList] at q; exact q
  obtain ⟨c0, t0, m0⟩ := F.called_set.mro
  have f1 := F.called_set.made; have f2 := F.called_set.sub; have f3 := F.called_set.notType; have f4 := F.called_set.canCreate; have f5 := F.typeCall_set_1 (.ref l)
  refine wpAny_call (codeAny_of_tree ?_)
  show wpAny _ _ (callAny (.type "set") _) _ _ _
  refine wpAny_pure ⟨Code.quiet_builtin _ (by decide +kernel), codeAny_builtin F.entry_type_call ?_⟩
  rw [Around.under_plain (weight_type_call_type "set" [.ref l] []) rfl]
  repeat (any_goals (first | assumption | wp_step))
  refine codeAny_mono (code_set_led1 (.ref l) (E := E) (Q₁ := fun v s1 => v = .ref s.heap.objs.size ∧ s1 = { s with heap := s.heap.push (freshSet w) }) ⟨rfl, rfl⟩) fun r s1 hr => ?_
  cases r with
  | error e => exact hr
  | ok fl =>
    cases fl with
    | ret v =>
      obtain ⟨rfl, rfl⟩ := hr
      have g1 : (s.heap.push (freshSet w)).get? s.heap.objs.size = some (freshSet w) := Heap.get?_push_size _ rfl
      have g2 : Shared.TypeIs { s with heap := s.heap.push (freshSet w) } (.ref s.heap.objs.size) "set" := ⟨_, g1, rfl⟩
      have f6 := F.called_set.init.lookup; have f7 := F.called_set.init.bind (.ref s.heap.objs.size)
      repeat (any_goals (first | assumption | wp_step))
      refine codeAny_mono (codeAny_call_builtin (R := wants (fun r s2 => r = .none ∧ ∃ h2 k c, s2 = { s with heap := h2, toks := k } ∧ SetR w h2 s.heap.objs.size (fun j => decide (j ∈ ns)) c ∧ c ≤ ns.length ∧ (∀ b o, s.heap.get? b = some o → h2.get? b = some o)) E)
        F.called_set.init.plain F.entry_set_init (check_set_init_1 g2 ?_)) fun r2 s2 hr2 => ?_
      · obtain ⟨⟨oc, od, da, sl⟩, ho, hc, n0, hd⟩ := hl
        simp only at hc hd
        subst hc; subst hd
        have ho' : (s.heap.push (freshSet w)).get? l = some { cls := .type "list", dict := od, data := .seq items n0, slots := sl } := Heap.get?_push_of_some _ ho
        have f8 := F.sub_list_set; have f9 := F.sub_list_frozenset
        have f10 : (Value.type "list" == Value.type "dict") = false := by decide
        have hl1 : (s.heap.push (freshSet w)).IsList l items := ⟨_, ho', rfl, n0, rfl⟩
        unfold Builtin.«set.__init__» noKeywords Builtin.Frozenset.updateFrom
        generalize hPI : pyIter = PI
        wp_walk
        subst hPI
        refine wpAny_pyIter_list hl1 (wpAny_bind (wpAny_runValue ?_))
        have ls : l < s.heap.objs.size := Heap.lt_size ho
        have hh3 : A.in1.in1.in1.handled = none := by simp [hh]
        have sz : (s.heap.push (freshSet w)).objs.size = s.heap.objs.size + 1 := Heap.size_push ..
        have lI : l ≠ (s.heap.push (freshSet w)).objs.size := by rw [sz]; exact Nat.ne_of_lt (Nat.lt_succ_of_lt ls)
        have sI : s.heap.objs.size ∉ [(s.heap.push (freshSet w)).objs.size, l] := by
          rw [sz]
          intro z
          rcases List.mem_cons.mp z with z | z
          · exact absurd z (Nat.ne_of_lt (Nat.lt_succ_self _))
          · exact absurd (List.mem_singleton.mp z) (Nat.ne_of_gt ls)
        have vals : ∀ (i : Nat) (v : Value), items[i]? = some v → ∃ k t, ns[i]? = some k ∧ v = .int k t := fun i v hv => by
          obtain ⟨k, t, e1, e2⟩ := IntsAre.at hi i v (by rw [Array.getElem?_toList]; exact hv)
          exact ⟨k, t, e2, e1⟩
        refine set_update_ints ((Walks.list hh3 _ l lI items).toS) s.heap.objs.size sI ns hz hb vals (items.size - 0) 0 _ (by omega) (Nat.zero_le _) ⟨⟨_, Heap.get?_push_size _ rfl, rfl, rfl⟩, hl1.push _⟩ ⟨0, Nat.le_refl 0, setR_new_at (Heap.get?_push_of_some _ g1)⟩ fun s3 c3 hm hc3 hS3 => ?_
        obtain ⟨h3, g3, d3, t3, o3⟩ := s3
        obtain rfl : g3 = s.gens := hm.gens
        obtain rfl : d3 = s.drawn := hm.drawn
        obtain rfl : o3 = s.os := hm.os
        refine wpAny_pure ?_
        show wpAny _ _ (ret Value.none) _ _ _
        rw [hz] at hc3
        refine wpAny_pure ⟨rfl, h3, t3, c3, rfl, hS3, hc3, fun b o e => ?_⟩
        have b0 : b < s.heap.objs.size := Heap.lt_size e
        refine hm.heap b o (fun z => ?_) (Heap.get?_push_of_some _ (Heap.get?_push_of_some _ e))
        rcases List.mem_cons.mp z with z | z
        · exact absurd z (Nat.ne_of_lt b0)
        · have z := List.mem_singleton.mp z
          rw [sz] at z
          exact absurd z (Nat.ne_of_lt (Nat.lt_succ_of_lt b0))
      · cases r2 with
        | error e => exact hr2
        | ok fl2 =>
          cases fl2 with
          | ret r =>
            obtain ⟨rfl, h2, k, c, rfl, p1, p2, p3⟩ := hr2
            repeat (any_goals (first | assumption | wp_step))
            exact h _ _ _ p1 p2 p3
          | _ => exact hr2.elim
    | _ => exact hr.elim
end
def rSetOfL (K : PySem.W.Frag) (w : World) : List V → Hp → VK → Prop := fun vs H Q => ∃ (a : Addr) (ns : List Int), vs = [V.ref a] ∧ SqL K H a (ns.map V.int) ∧ ns.length < 60 ∧ ∀ p c, H p = none → c ≤ ns.length → Q (.ref p) (upd H p (SetO w p (fun j => decide (j ∈ ns)) c))
theorem cr_setL {X : Cx} (hc : X.calm = true) : CallR X (.type "set") (rSetOfL X.K X.w) := by
  intro pins s σ H vs us Q I r h
  obtain ⟨a, ns, rfl, hs, hn, q⟩ := h
  obtain ⟨its, rv, pl, hz⟩ := I.list hs
  rw [Vals.ref1 r]
  refine set_of_ints ns (I.ok.hd hc) pl.isList rv.ints (Nat.lt_of_le_of_lt (show ns.length + 1 ≤ 60 by omega) (by decide)) fun h2 k c h1 h3 h4 => ?_
  have hf : H s.heap.objs.size = none := I.hok.fresh (Nat.le_refl _)
  exact ⟨.ref s.heap.objs.size, _, I.laid (t' := k) h4 (Nat.le_refl _) (setO_new h1), rfl, q _ c hf h3⟩
/-! sorted(set(xs)) -/
section
variable {K : PySem.W.Frag} {wl : World} {σ : L2.St} {H : Hp} {ta : TE}
theorem ints_sorted : ∀ (a b : List Int), a.Pairwise (· < ·) → b.Pairwise (· < ·) → (∀ x, x ∈ a ↔ x ∈ b) → a = b
  | [], [], _, _, _ => rfl
  | [], y :: b, _, _, h => absurd ((h y).2 List.mem_cons_self) (by simp)
  | x :: a, [], _, _, h => absurd ((h x).1 List.mem_cons_self) (by simp)
  | x :: a, y :: b, ha, hb, h => by
    obtain ⟨a1, a2⟩ := List.pairwise_cons.mp ha
    obtain ⟨b1, b2⟩ := List.pairwise_cons.mp hb
    have e : x = y := by
      rcases List.mem_cons.mp ((h x).1 List.mem_cons_self) with e | e
      · exact e
      · rcases List.mem_cons.mp ((h y).2 List.mem_cons_self) with e' | e'
        · exact e'.symm
        · have := a1 y e'
          have := b1 x e
          omega
    subst e
    rw [ints_sorted a b a2 b2 fun z => ⟨fun hz => ?_, fun hz => ?_⟩]
    · rcases List.mem_cons.mp ((h z).1 (List.mem_cons_of_mem _ hz)) with e | e
      · have := a1 z hz; omega
      · exact e
    · rcases List.mem_cons.mp ((h z).2 (List.mem_cons_of_mem _ hz)) with e | e
      · have := b1 z hz; omega
      · exact e
theorem em_sortSet {ns ms : List Nat} (h : EvM ta σ H (ns.map dI)) (hn : ns.length < 60) (hm : ms.Pairwise (· < ·)) (he : ∀ k, k ∈ ms ↔ k ∈ ns) : EvM (tCB (rSortedSet wl) (tCons (tCB (rSetOfL K wl) (tCons ta tNil)) tNil)) σ H (ms.map dI) := fun H1 a Q q =>
  el_I h H1 a _ fun p H2 _ b e => ⟨p, ns.map Int.ofNat, rfl, SqL.of (by rw [e, vI_int]), by simpa using hn, fun z c hz hc => ⟨z, _, c, rfl, upd_same, by
    have : (ns.map Int.ofNat).length = ns.length := by simp
    omega, fun out y h1 h2 h3 hy => by
    have eo : out = ms.map Int.ofNat := by
      refine ints_sorted _ _ h1 ?_ fun x => ?_
      · exact List.pairwise_map.mpr (hm.imp fun hab => Int.ofNat_lt.mpr hab)
      · rw [h2 x, decide_eq_true_eq, List.mem_map, List.mem_map]
        exact ⟨fun ⟨k, g1, g2⟩ => ⟨k, (he k).2 g1, g2⟩, fun ⟨k, g1, g2⟩ => ⟨k, (he k).1 g1, g2⟩⟩
    have x1 : Ex H2 (upd (upd H2 z (SetO wl z (fun j => decide (j ∈ ns.map Int.ofNat)) c)) y (.lst (out.map V.int))) := (Ex.new hz).trans (Ex.new hy)
    refine q y (ms.map vI) _ (fresh_back b (fresh_back (Ex.new hz) hy)) (b.trans x1) ?_ I_dsAll
    rw [upd_same, eo, vI_int]⟩⟩
end
end K31

set_option maxRecDepth 100000
set_option maxHeartbeats 8000000
/-! the text: its defs, how a def is promised and called -/
namespace K31
open PySem PySem.Spec PyProof.Rows L2 Evl StX
def topS (i : Nat) : Stmt := PySem.Challenge.pw_saidcounts_k31_whole_lengths_paid.main.body.getD i (.Pass ⟨0, 0, 0, 0⟩)
/-- a def of the text as the top leaves it -/
structure Dfn (K : PySem.W.Frag) (mg : Str → Option Value) (x : Str) (st : Stmt) (ps : List Str) : Prop where
  ex : ∃ (f : Addr) (fd : FuncData), Fun K x x st f fd ∧ mg x = some (.ref f) ∧ Binds K fd ps []
/-- a def that keeps a promise -/
structure Cal (P : Program) (w : World) (K : PySem.W.Frag) (mg : Str → Option Value) (base : Heap) (k : Nat) (x : Str) (ps : List Str) (sp : Sp) : Prop where
  ex : ∃ (f : Addr) (fd : FuncData), mg x = some (.ref f) ∧ PySem.W.keepIn K (.ref f) = true ∧ Binds K fd ps [] ∧ FnOk P w K mg base CX0 k f fd ps sp
section
variable {P : Program} {w : World} {K : PySem.W.Frag} {mg : Str → Option Value} {base : Heap}
theorem Cal.mono {j k : Nat} {x : Str} {ps : List Str} {sp : Sp} (h : Cal P w K mg base j x ps sp) (hk : j ≤ k) : Cal P w K mg base k x ps sp := by
  obtain ⟨f, fd, a, b, c, d⟩ := h
  exact ⟨f, fd, a, b, c, d.mono hk⟩
theorem pe_cal {X : Cx} {k : Nat} {x : Str} {ps : List Str} {sp : Sp} {p pos : Pos} {e : Expr} {es : List Expr} {t : TA} (C : Cal X.prog X.w X.K X.mg X.base k x ps sp) (hr : Room k X.A) (hg : Gl X x) (ha : PA X (e :: es) t)
    (hdb : (x == ("__debug__" : Str)) = false := by decide) (he : starEach (e :: es) X.env = (false, eval e X.env) :: starEach es X.env := by rfl) (hpl : (backTo pos (starEach es X.env)).any (·.1) = false := by rfl) :
    PE X (.Call (.Name x p) (e :: es) [] pos) (tCall sp [] E0 t) := by
  obtain ⟨f, fd, a, b, c, d⟩ := C
  exact pe_call d hr hg a b c .nil pass0 ha hdb he hpl
theorem cal_mk {x : Str} {st : Stmt} {N ps : List Str} {k : Nat} {pre : List PyData → PyData → Prop} (D : Dfn K mg x st ps) (S : FnScope N ps (defScope st)) (hl : ∀ ds d, pre ds d → ds.length = ps.length)
    (body : ∀ (f : Addr) (cdv : Value) (A : Around) (outer : List Env) (s : Shared) (H : Hp) (vs : List V) (ds : List PyData) (d : PyData) (Q : VK) (E : XK), Room k (A.deeper (envOfC x (defScope st) s.heap.objs.size f cdv)) → DsAll H vs ds → pre ds d → (∀ v H', Ex H H' → Ds H' v d → Q v H') →
      ∃ t, PSs (cxOf CX0 P w K mg base N x (defScope st) f cdv A outer s H E).nox (defBody st) t ∧ t { nx := fun _ H' => Q .non H', rt := Q } (start N vs) H) : Cal P w K mg base (k + 1) x ps (SpF pre) := by
  obtain ⟨f, fd, F, g, b⟩ := D
  refine ⟨f, fd, g, F.kp, b, F.ok S (fun vs H Q E h => ?_) (fun cdv A outer s H vs Q E hr h => ?_)⟩
  · obtain ⟨ds, d, hv, hp, _⟩ := h
    exact hv.length.trans (hl ds d hp)
  · obtain ⟨ds, d, hv, hp, q⟩ := h
    exact body f cdv A outer s H vs ds d Q E hr hv hp q
end
/-- the names that the defs find: built-ins, constants -/
structure Nms (mg : Str → Option Value) : Prop where
  isinstance : mg "isinstance" = none
  int : mg "int" = none
  bool : mg "bool" = none
  str : mg "str" = none
  list : mg "list" = none
  tuple : mg "tuple" = none
  len : mg "len" = none
  enumerate : mg "enumerate" = none
  sorted : mg "sorted" = none
  set : mg "set" = none
  max : mg "max" = none
  range : mg "range" = none
  sum : mg "sum" = none
  letters : ∃ t, mg "LETTERS" = some (.str "abcd" t)
  mostWord : ∃ t, mg "MOST_WORD" = some (.int 2000 t)
  mostAll : ∃ t, mg "MOST_ALL" = some (.int 5000 t)
  mostLength : ∃ t, mg "MOST_LENGTH" = some (.int 2000 t)
  mostPath : ∃ t, mg "MOST_PATH" = some (.int 200 t)
/-- a module's constant -/
theorem pe_gl {X : Cx} {x : Str} {v : V} {u : Value} {pos : Pos} (hg : Gl X x) (hm : X.mg x = some u) (r : RelV v u) (hd : (x == ("__debug__" : Str)) = false := by decide) : PE X (.Name x pos) (tC v) := pe_glob hg hm r hd
theorem letters_wd : ("abcd" : Str) = wd [97, 98, 99, 100] := by decide +kernel
/-- words -/
def Wd (w : List Nat) : Prop := (∀ x ∈ w, 97 ≤ x ∧ x ≤ 100) ∧ w.length ≤ 40
theorem Wd.mem {w : List Nat} (h : Wd w) {c : Nat} (hc : c ∈ w) : c ∈ [97, 98, 99, 100] := by
  have := h.1 c hc
  have : c = 97 ∨ c = 98 ∨ c = 99 ∨ c = 100 := by omega
  simpa using this

abbrev sIsInt : Stmt := topS 9
abbrev sIsFrom : Stmt := topS 10
abbrev sNeedFrom : Stmt := topS 11
abbrev sNeedWord : Stmt := topS 12
abbrev sRuns : Stmt := topS 14
abbrev sMarks : Stmt := topS 15
abbrev sWordOf : Stmt := topS 16
abbrev sCore : Stmt := topS 17
abbrev sNeedCore : Stmt := topS 18
abbrev sLevels : Stmt := topS 19
abbrev sCoinsOf : Stmt := topS 24
abbrev sCoins : Stmt := topS 25
abbrev sPay : Stmt := topS 26
abbrev sCount : Stmt := topS 27
abbrev sCounts : Stmt := topS 28
abbrev sDiv : Stmt := topS 29
abbrev sMissing : Stmt := topS 30
abbrev sGapsLen : Stmt := topS 31
abbrev sTaken : Stmt := topS 33
abbrev sAlike : Stmt := topS 34
abbrev sLWord : Stmt := topS 35
abbrev sLEnds : Stmt := topS 36
abbrev sLMarks : Stmt := topS 37
abbrev sLMade : Stmt := topS 38
abbrev sLCore : Stmt := topS 39
abbrev sLGaps : Stmt := topS 40
abbrev sLGrown : Stmt := topS 41
abbrev sLRows : Stmt := topS 42
abbrev sLPower : Stmt := topS 43
abbrev sLaw : Stmt := topS 44
end K31

set_option maxRecDepth 100000
set_option maxHeartbeats 8000000
/-! small readings: chains, dicts of counts, isinstance, compares with [] -/
namespace K31
open PySem PySem.Spec PyProof.Rows L2 Evl StX
section
variable {K : PySem.W.Frag} {σ : L2.St} {H H' : Hp} {ta tb tc te td ty tv : TE} {t : TT} {v x : V} {d : PyData} {ds : List PyData} {D : Ends} {tu tz : TS}
theorem ev_isi {c : V} {ty u : Value} {b : Bool} (h1 : Ev ta σ H x) (h2 : Ev tb σ H c) (hc : ClsV c u) (hy : ∀ H1, Ex H H1 → TyX K H1 x ty) (k : PySem.W.kitOne K ty u = some b) : Ev (tCB (rIsi K) (tCons ta (tCons tb tNil))) σ H (.bl b) := fun H1 a Q q =>
  h1 H1 a _ fun H2 b2 => h2 H2 (a.trans b2) _ fun H3 b3 => ⟨x, c, ty, u, b, rfl, hc, hy H3 ((a.trans b2).trans b3), k, q H3 (b2.trans b3)⟩
abbrev rLe : R2 := rI0 fun i j => .bl (decide (i ≤ j))
theorem ev_chainLe {i j k : Int} (ha : Ev ta σ H (.int i)) (hb : Ev tb σ H (.int j)) (hc : Ev tc σ H (.int k)) (h1 : i ≤ j) (h2 : j ≤ k) : Ev (tChain rLe rLe ta tb tc) σ H (.bl true) := fun H1 a Q q =>
  ha H1 a _ fun H2 b2 => hb H2 (a.trans b2) _ fun H3 b3 => ⟨i, j, rfl, rfl, true, congrArg V.bl (decide_eq_true h1), iteT (hc H3 ((a.trans b2).trans b3) _ fun H4 b4 => ⟨j, k, rfl, rfl, by
    show Q (.bl (decide (j ≤ k))) H4
    rw [decide_eq_true h2]
    exact q H4 ((b2.trans b3).trans b4)⟩)⟩
abbrev rNotInC : R2 := fun x y H Q => ∃ (c : Nat) (z : Str), x = .str ⟨#[c]⟩ ∧ y = .str z ∧ Q (.bl (!decide (c ∈ z.cps.toList))) H
theorem ev_notIn {c : Nat} {w : List Nat} (ha : Ev ta σ H (.str (wd [c]))) (hb : Ev tb σ H (.str (wd w))) (hc : c ∈ w) : Ev (tOp rNotInC ta tb) σ H (.bl false) := fun H1 a Q q =>
  ha H1 a _ fun H2 b2 => hb H2 (a.trans b2) _ fun H3 b3 => ⟨c, wd w, rfl, rfl, by
    rw [wd_tl, decide_eq_true hc]
    exact q H3 (b2.trans b3)⟩
/-- len of a text -/
abbrev rLenX (K : PySem.W.Frag) : List V → Hp → VK → Prop := fun xs H Q => ∃ x n, xs = [x] ∧ LenV K x H n ∧ Q (.int n) H
theorem ev_lenW {w : List Nat} (ha : Ev ta σ H (.str (wd w))) (hl : w.length ≤ 100000) : Ev (tCB (rLenX K) (tCons ta tNil)) σ H (vI w.length) := fun H1 a Q q =>
  ha H1 a _ fun H2 b2 => ⟨.str (wd w), w.length, rfl, ⟨by rw [wd_len]; exact sz_of hl, (wd_len w).symm⟩, q H2 b2⟩
theorem ev_lenXL (ha : EvD ta σ H (.list ds)) : Ev (tCB (rLenX K) (tCons ta tNil)) σ H (vI ds.length) := fun H1 a Q q => ha H1 a _ fun v H2 b2 c => by
  obtain ⟨p, xs, rfl, hp, hx⟩ := c.inj_list
  exact ⟨.ref p, ds.length, rfl, .inl ⟨xs, SqL.of hp, hx.length.symm⟩, q H2 b2⟩
theorem ev_lenXT (ha : EvD ta σ H (.tuple ds)) : Ev (tCB (rLenX K) (tCons ta tNil)) σ H (vI ds.length) := fun H1 a Q q => ha H1 a _ fun v H2 b2 c => by
  obtain ⟨p, xs, rfl, hp, hx⟩ := c.inj_tup
  exact ⟨.ref p, ds.length, rfl, .inr ⟨xs, SqT.of hp, hx.length.symm⟩, q H2 b2⟩
/-- int operators -/
theorem ev_I2 {g : Int → Int → V} {i j : Int} (ha : Ev ta σ H (.int i)) (hb : Ev tb σ H (.int j)) : Ev (tOp (rI0 g) ta tb) σ H (g i j) := ev_op ha hb rv_I0
theorem ev_neg {i : Int} (ha : Ev ta σ H (.int i)) : Ev (tUn (rU fun i => .int (-i)) ta) σ H (.int (-i)) := ev_un ha ru_neg
theorem ev_eqS {a b : List Nat} (ha : Ev ta σ H (.str (wd a))) (hb : Ev tb σ H (.str (wd b))) : Ev (tOp rEq ta tb) σ H (.bl (decide (a = b))) := ev_is (ev_op ha hb (rv_eq rfl)) (by
  by_cases h : a = b
  · subst h
    rw [decide_eq_true rfl, decide_eq_true rfl]
  · rw [decide_eq_false h, decide_eq_false fun q => h (wd_inj (V.str.inj q))])
theorem ev_neS {a b : List Nat} (ha : Ev ta σ H (.str (wd a))) (hb : Ev tb σ H (.str (wd b))) : Ev (tOp rNe ta tb) σ H (.bl (!decide (a = b))) := ev_is (ev_op ha hb (rv_ne rfl)) (by
  by_cases h : a = b
  · subst h
    rw [decide_eq_true rfl, decide_eq_true rfl]
  · rw [decide_eq_false h, decide_eq_false fun q => h (wd_inj (V.str.inj q))])
theorem ev_eqI {i j : Int} (ha : Ev ta σ H (.int i)) (hb : Ev tb σ H (.int j)) : Ev (tOp rEq ta tb) σ H (.bl (decide (i = j))) := ev_is (ev_op ha hb (rv_eq rfl)) (by
  by_cases h : i = j
  · subst h
    rw [decide_eq_true rfl, decide_eq_true rfl]
  · rw [decide_eq_false h, decide_eq_false fun q => h (V.int.inj q)])
theorem ev_neI {i j : Int} (ha : Ev ta σ H (.int i)) (hb : Ev tb σ H (.int j)) : Ev (tOp rNe ta tb) σ H (.bl (!decide (i = j))) := ev_is (ev_op ha hb (rv_ne rfl)) (by
  by_cases h : i = j
  · subst h
    rw [decide_eq_true rfl, decide_eq_true rfl]
  · rw [decide_eq_false h, decide_eq_false fun q => h (V.int.inj q)])
/-- text + text, one letter of a text, a letter so many times, a letter counted -/
abbrev rAddT : R2 := fun x y H Q => ∃ i j, x = .str i ∧ y = .str j ∧ i.length + j.length ≤ sizeLine ∧ Q (.str (i ++ j)) H
theorem ev_addT {a b : List Nat} (ha : Ev ta σ H (.str (wd a))) (hb : Ev tb σ H (.str (wd b))) (hl : a.length + b.length ≤ 1000000) : Ev (tOp rAddT ta tb) σ H (.str (wd (a ++ b))) := fun H1 e Q q =>
  ha H1 e _ fun H2 b2 => hb H2 (e.trans b2) _ fun H3 b3 => ⟨wd a, wd b, rfl, rfl, by rw [wd_len, wd_len, sizeLine_eq]; omega, by
    rw [wd_app]
    exact q H3 (b2.trans b3)⟩
theorem ev_ixW {w : List Nat} {j c : Nat} (ha : Ev ta σ H (.str (wd w))) (hb : Ev tb σ H (vI j)) (hl : w.length ≤ 100000) (hj : w[j]? = some c) : Ev (tOp rIxS ta tb) σ H (.str (wd [c])) := ev_op ha hb (rv_ixS (by rw [wd_len]; exact hl) (by
    rw [wd_tl]
    exact atI_nat hj))
theorem ev_mulS {c : Nat} {n : Int} (ha : Ev ta σ H (.str (wd [c]))) (hb : Ev tb σ H (.int n)) (hn : -1000000 ≤ n ∧ n ≤ 1000000) : Ev (tOp rMulS ta tb) σ H (.str (wd (List.replicate n.toNat c))) := fun H1 e Q q =>
  ha H1 e _ fun H2 b2 => hb H2 (e.trans b2) _ fun H3 b3 => ⟨c, n, rfl, rfl, hn, q H3 (b2.trans b3)⟩
abbrev rCountT : V → List V → Hp → VK → Prop := fun x xs H Q => ∃ a b, x = .str a ∧ xs = [.str b] ∧ Q (.int (Txt.count a b)) H
theorem ev_countT {w : List Nat} {c : Nat} (ha : Ev ta σ H (.str (wd w))) (hb : Ev tb σ H (.str (wd [c]))) : Ev (tM1 rCountT ta tb) σ H (vI (w.count c)) := fun H1 e Q q =>
  ha H1 e _ fun H2 b2 => ⟨⟨_, rfl⟩, hb H2 (e.trans b2) _ fun H3 b3 => ⟨wd w, wd [c], rfl, rfl, by
    rw [count_one]
    exact q H3 (b2.trans b3)⟩⟩
/-- s[:k] -/
theorem ev_slW {w : List Nat} {k : Nat} {th : TO} (ha : Ev ta σ H (.str (wd w))) (hb : EvO th σ H (some (k : Int))) (hl : w.length ≤ 100000) : Ev (tSl rSlS ta tNoPart th) σ H (.str (wd (w.take k))) := fun H1 e Q q =>
  ha H1 e _ fun H2 b2 => hb H2 (e.trans b2) _ fun H3 b3 => ⟨wd w, rfl, by rw [wd_len]; exact sz_of hl, by
    have e1 : cutS (wd w) none (some (k : Int)) = wd (w.take k) := by
      unfold cutS
      rw [wd_tl, wd_len, HT.sIx_none, HT.sIx_nat]
      rw [List.drop_zero, Nat.sub_zero, List.take_eq_take_min (l := w) (i := k)]
      rfl
    rw [e1]
    exact q H3 (b2.trans b3)⟩

theorem q_appD {l : Addr} {xs : List V} (hl : H l = some (.lst xs)) (hx : DsAll H xs ds) (hf : ∀ d ∈ ds, LF d) (ha : Ev ta σ H (.ref l)) (h : EvD te σ H d) (hd : LF d) (hz : ds.length < 100000)
    (k : ∀ v H1, Ex H H1 → H1 l = some (.lst xs) → DsAll (upd H1 l (.lst (xs ++ [v]))) (xs ++ [v]) (ds ++ [d]) → tz D σ (upd H1 l (.lst (xs ++ [v])))) :
    tSeq (tDrop (tBM K "list" rAppend ta (tCons te tNil))) tz D σ H := s_appD (D := { D with nx := tz D }) hl hx hf ha h hd hz k
/-! ### dicts of counts, keys one letter each -/
def KD (kvs : List (Key × V)) (n : Nat → Nat) : Prop := ∀ c, (valV kvs (Sum.inr (wd [c]))).getD (.int 0) = vI (n c)
theorem wd1_inj {a b : Nat} (h : (Sum.inr (wd [a]) : Key) = Sum.inr (wd [b])) : a = b := by
  have := wd_inj (Sum.inr.inj h)
  simpa using this
theorem KD.nil : KD [] fun _ => 0 := fun _ => rfl
theorem KD.put {kvs : List (Key × V)} {n : Nat → Nat} (h : KD kvs n) (c k : Nat) : KD (putK kvs (Sum.inr (wd [c])) (vI k)) fun x => if x = c then k else n x := fun x => by
  show _ = vI (if x = c then k else n x)
  rw [valV_put]
  by_cases e : x = c
  · subst e
    rw [if_pos rfl, if_pos rfl]
    rfl
  · rw [if_neg fun q => e (wd1_inj q), if_neg e]
    exact h x
theorem ev_get {p : Addr} {kvs : List (Key × V)} {n : Nat → Nat} {c : Nat} (hp : H p = some (.dK kvs)) (kd : KD kvs n) (ha : Ev td σ H (.ref p)) (hb : Ev ty σ H (.str (wd [c]))) : Ev (tDGet2 td ty (tC (.int 0))) σ H (vI (n c)) := fun H1 e Q q =>
  ha H1 e _ fun H2 b2 => ⟨p, rfl, .inl ⟨kvs, .inl ((e.trans b2) _ _ hp)⟩, hb H2 (e.trans b2) _ fun H3 b3 => ⟨_, DGet.k (k := Sum.inr (wd [c])) (((e.trans b2).trans b3) _ _ hp), by
    rw [kd c]
    exact q H3 (b2.trans b3)⟩⟩
theorem ev_getI {p : Addr} {kvs : List (Key × V)} {c k : Nat} (hp : H p = some (.dK kvs)) (hk : valV kvs (Sum.inr (wd [c])) = some (vI k)) (ha : Ev td σ H (.ref p)) (hb : Ev ty σ H (.str (wd [c]))) : Ev (tDGet td ty) σ H (vI k) := fun H1 e Q q =>
  ha H1 e _ fun H2 b2 => hb H2 (e.trans b2) _ fun H3 b3 => ⟨p, vI k, rfl, by
    rw [← hk]
    exact DGet.k (k := Sum.inr (wd [c])) (((e.trans b2).trans b3) _ _ hp), q H3 (b2.trans b3)⟩
theorem s_dput {p : Addr} {kvs : List (Key × V)} {z : Str} (hp : H p = some (.dK kvs)) (hl : kvs.length < 100000) (hv : Ev tv σ H v) (hd : Ev td σ H (.ref p)) (hk : Ev ty σ H (.str z)) (k : ∀ H1, Ex H H1 → D.nx σ (upd H1 p (.dK (putK kvs (Sum.inr z) v)))) : sDPut td ty tv D σ H :=
  hv H (Ex.refl H) _ fun H1 e1 => hd H1 e1 _ fun H2 e2 => hk H2 (e1.trans e2) _ fun H3 e3 =>
    ⟨p, _, rfl, DPut.k (k := Sum.inr z) (((e1.trans e2).trans e3) _ _ hp) (sz_lt hl), k H3 ((e1.trans e2).trans e3)⟩
theorem q_dput {p : Addr} {kvs : List (Key × V)} {z : Str} (hp : H p = some (.dK kvs)) (hl : kvs.length < 100000) (hv : Ev tv σ H v) (hd : Ev td σ H (.ref p)) (hk : Ev ty σ H (.str z)) (k : ∀ H1, Ex H H1 → tz D σ (upd H1 p (.dK (putK kvs (Sum.inr z) v)))) : tSeq (sDPut td ty tv) tz D σ H :=
  s_dput (D := { D with nx := tz D }) hp hl hv hd hk k

/-! ### == [] -/
theorem shaped_ints : ∀ ns : List Nat, SeqAt.shaped (.list (ns.map dI)) = true := fun ns => by
  have key : ∀ ns : List Nat, PyData.canLayAll0 (ns.map dI) = true ∧ PyData.depthAll (ns.map dI) = 0 := by
    intro ns
    induction ns with
    | nil => exact ⟨rfl, rfl⟩
    | cons n ns ih => exact ⟨by rw [List.map_cons, PyData.canLayAll0, ih.1]; rfl, by rw [List.map_cons, PyData.depthAll, ih.2]; rfl⟩
  unfold SeqAt.shaped
  rw [PyData.canLay0, PyData.depth, (key ns).1, (key ns).2]
  rfl
/-- a run: its letter, its count -/
def dR (q : Nat × Nat) : PyData := .tuple [.str (wd [q.1]), dI q.2]
theorem lf_R {L : List (Nat × Nat)} : ∀ d ∈ L.map dR, LF d := fun d h => by
  obtain ⟨q, _, rfl⟩ := List.mem_map.mp h
  refine .tup fun e he => ?_
  rcases List.mem_cons.mp he with rfl | he
  · exact .str _
  · rw [List.mem_singleton.mp he]; exact .int _
theorem strOk_letter {c : Nat} (h : 97 ≤ c ∧ c ≤ 100) : PyData.strOk (wd [c]) = true := by
  have : c = 97 ∨ c = 98 ∨ c = 99 ∨ c = 100 := by omega
  rcases this with rfl | rfl | rfl | rfl <;> decide +kernel
theorem shaped_runs (L : List (Nat × Nat)) (h : ∀ q ∈ L, 97 ≤ q.1 ∧ q.1 ≤ 100) : SeqAt.shaped (.list (L.map dR)) = true := by
  have key : ∀ L : List (Nat × Nat), (∀ q ∈ L, 97 ≤ q.1 ∧ q.1 ≤ 100) → PyData.canLayAll0 (L.map dR) = true ∧ PyData.depthAll (L.map dR) ≤ 1 := by
    intro L
    induction L with
    | nil => exact fun _ => ⟨rfl, Nat.zero_le _⟩
    | cons q L ih =>
      intro h
      obtain ⟨i1, i2⟩ := ih fun q hq => h q (List.mem_cons_of_mem _ hq)
      have h1 := strOk_letter (h q List.mem_cons_self)
      refine ⟨?_, ?_⟩
      · rw [List.map_cons, PyData.canLayAll0, i1, dR, PyData.canLay0, PyData.canLayAll0, PyData.canLay0, h1, PyData.canLayAll0, dI, PyData.canLay0, PyData.canLayAll0]
        rfl
      · rw [List.map_cons, PyData.depthAll]
        have : (dR q).depth = 1 := rfl
        omega
  obtain ⟨k1, k2⟩ := key L h
  unfold SeqAt.shaped
  rw [PyData.canLay0, PyData.depth, k1]
  simp only [Bool.true_and, decide_eq_true_eq]
  omega
theorem shaped_nil : SeqAt.shaped (.list []) = true := rfl
theorem eqv_nil (ds : List PyData) : PyData.eqv (.list ds) (.list []) = ds.isEmpty := by
  cases ds <;> simp [PyData.eqv, PyData.eqvAll]
end
end K31

set_option maxHeartbeats 4000000
namespace K31

/-! ### words: letters are numbers -/
/-- the letter and how often it has stood behind each run -/
def endsAux : List Nat → List Nat → List (Nat × Nat)
  | _, [] => []
  | p, [c] => [(c, p.count c + 1)]
  | p, c :: d :: r => if c = d then endsAux (p ++ [c]) (d :: r) else (c, p.count c + 1) :: endsAux (p ++ [c]) (d :: r)
def ends (w : List Nat) : List (Nat × Nat) := endsAux [] w
def setK (κ : Nat → Nat) (c k : Nat) : Nat → Nat := fun x => if x = c then k else κ x
def madeAux (κ : Nat → Nat) : List (Nat × Nat) → List Nat
  | [] => []
  | (c, k) :: L => List.replicate (k - κ c) c ++ madeAux (setK κ c k) L
def made (L : List (Nat × Nat)) : List Nat := madeAux (fun _ => 0) L
def Valid (κ : Nat → Nat) : Option Nat → List (Nat × Nat) → Prop
  | _, [] => True
  | prev, (c, k) :: L => prev ≠ some c ∧ κ c < k ∧ Valid (setK κ c k) (some c) L
def lastK (κ : Nat → Nat) : List (Nat × Nat) → Nat → Nat
  | [] => κ
  | (c, k) :: L => lastK (setK κ c k) L

theorem setK_same (κ : Nat → Nat) (c k : Nat) : setK κ c k c = k := by simp [setK]
theorem setK_ne {κ : Nat → Nat} {c k x : Nat} (h : x ≠ c) : setK κ c k x = κ x := by simp [setK, h]

theorem count_snoc (p : List Nat) (c x : Nat) : (p ++ [c]).count x = p.count x + if x = c then 1 else 0 := by
  rw [List.count_append]
  by_cases h : x = c
  · subst h; simp
  · rw [if_neg h, List.count_eq_zero_of_not_mem (l := [c]) (by simp; exact h)]

theorem endsAux_valid : ∀ (r : List Nat) (c : Nat) (p : List Nat) (κ : Nat → Nat) (prev : Option Nat), prev ≠ some c → (∀ x, x ≠ c → κ x = p.count x) → κ c ≤ p.count c → Valid κ prev (endsAux p (c :: r))
  | [], c, p, κ, prev, h1, _, h3 => by
    show prev ≠ some c ∧ κ c < p.count c + 1 ∧ True
    exact ⟨h1, Nat.lt_succ_of_le h3, trivial⟩
  | d :: r, c, p, κ, prev, h1, h2, h3 => by
    by_cases e : c = d
    · subst e
      rw [show endsAux p (c :: c :: r) = endsAux (p ++ [c]) (c :: r) by rw [endsAux]; simp]
      refine endsAux_valid r c (p ++ [c]) κ prev h1 (fun x hx => ?_) ?_
      · rw [count_snoc, if_neg hx, h2 x hx]; rfl
      · rw [count_snoc, if_pos rfl]; omega
    · rw [show endsAux p (c :: d :: r) = (c, p.count c + 1) :: endsAux (p ++ [c]) (d :: r) by rw [endsAux]; simp [e]]
      refine ⟨h1, Nat.lt_succ_of_le h3, ?_⟩
      refine endsAux_valid r d (p ++ [c]) _ (some c) (fun q => e (Option.some.inj q)) (fun x hx => ?_) ?_
      · by_cases hc : x = c
        · subst hc; rw [setK_same, count_snoc, if_pos rfl]
        · rw [setK_ne hc, count_snoc, if_neg hc, h2 x hc]; rfl
      · rw [setK_ne (fun q => e q.symm), count_snoc, if_neg (fun q => e q.symm), h2 d (fun q => e q.symm)]
        exact Nat.le_refl _
theorem ends_valid (w : List Nat) : Valid (fun _ => 0) none (ends w) := by
  cases w with
  | nil => exact trivial
  | cons c r => exact endsAux_valid r c [] _ none (by simp) (fun _ _ => by simp) (by simp)

theorem endsAux_rep (c : Nat) : ∀ (n : Nat) (p R : List Nat), 0 < n → R.head? ≠ some c → endsAux p (List.replicate n c ++ R) = (c, p.count c + n) :: endsAux (p ++ List.replicate n c) R
  | 0, _, _, h, _ => absurd h (Nat.lt_irrefl 0)
  | 1, p, [], _, _ => by
    show endsAux p [c] = _
    rfl
  | 1, p, d :: R, _, h => by
    have e : c ≠ d := fun q => h (by rw [q]; rfl)
    show endsAux p (c :: d :: R) = _
    rw [endsAux, if_neg e]
    rfl
  | n + 2, p, R, _, h => by
    have ih := endsAux_rep c (n + 1) (p ++ [c]) R (Nat.succ_pos n) h
    show endsAux p (c :: c :: (List.replicate n c ++ R)) = _
    rw [endsAux, if_pos rfl]
    rw [show c :: (List.replicate n c ++ R) = List.replicate (n + 1) c ++ R from rfl, ih, count_snoc, if_pos rfl, List.append_assoc]
    rw [show [c] ++ List.replicate (n + 1) c = List.replicate (n + 2) c from rfl]
    congr 2
    omega
theorem endsAux_made : ∀ (L : List (Nat × Nat)) (κ : Nat → Nat) (prev : Option Nat) (p : List Nat), Valid κ prev L → (∀ x, κ x = p.count x) → endsAux p (madeAux κ L) = L
  | [], _, _, _, _, _ => by simp [madeAux, endsAux]
  | (c, k) :: L, κ, prev, p, h, hp => by
    obtain ⟨_, h2, h3⟩ := h
    show endsAux p (List.replicate (k - κ c) c ++ madeAux (setK κ c k) L) = _
    have hd : (madeAux (setK κ c k) L).head? ≠ some c := by
      cases L with
      | nil => simp [madeAux]
      | cons q L =>
        obtain ⟨d, k'⟩ := q
        obtain ⟨g1, g2, _⟩ := h3
        have g1 : c ≠ d := fun e => g1 (by rw [e])
        have : ∃ m, k' - setK κ c k d = m + 1 := ⟨k' - setK κ c k d - 1, by omega⟩
        obtain ⟨m, hm⟩ := this
        show (List.replicate (k' - setK κ c k d) d ++ _).head? ≠ some c
        rw [hm, List.replicate_succ]
        intro q
        exact g1 (Option.some.inj q).symm
    rw [endsAux_rep c _ p _ (by omega) hd]
    have e1 : p.count c + (k - κ c) = k := by rw [← hp c]; omega
    rw [e1, endsAux_made L (setK κ c k) (some c) (p ++ List.replicate (k - κ c) c) h3 fun x => ?_]
    rw [List.count_append, List.count_replicate]
    by_cases hx : x = c
    · subst hx
      rw [setK_same, if_pos (by simp), ← hp]; omega
    · rw [setK_ne hx, if_neg (by simpa using fun q => hx q.symm), hp x]; rfl

/-- the runs' counts put elsewhere by a function that rises on S -/
theorem valid_map {f : Nat → Nat} {S : Nat → Prop} (hf : ∀ a b, S a → S b → a < b → f a < f b) : ∀ (L : List (Nat × Nat)) (κ : Nat → Nat) (prev : Option Nat), (∀ x, S (κ x)) → (∀ q ∈ L, S q.2) → Valid κ prev L → Valid (fun x => f (κ x)) prev (L.map fun q => (q.1, f q.2))
  | [], _, _, _, _, _ => trivial
  | (c, k) :: L, κ, prev, h1, h2, ⟨g1, g2, g3⟩ => by
    have hk : S k := h2 (c, k) List.mem_cons_self
    refine ⟨g1, hf _ _ (h1 c) hk g2, ?_⟩
    have e : setK (fun x => f (κ x)) c (f k) = fun x => f (setK κ c k x) := by
      funext x
      by_cases hx : x = c
      · subst hx; rw [setK_same, setK_same]
      · rw [setK_ne hx, setK_ne hx]
    show Valid (setK (fun x => f (κ x)) c (f k)) (some c) _
    rw [e]
    refine valid_map hf L (setK κ c k) (some c) (fun x => ?_) (fun q hq => h2 q (List.mem_cons_of_mem _ hq)) g3
    by_cases hx : x = c
    · subst hx; rw [setK_same]; exact hk
    · rw [setK_ne hx]; exact h1 x
theorem lastK_map {f : Nat → Nat} : ∀ (L : List (Nat × Nat)) (κ : Nat → Nat), lastK (fun x => f (κ x)) (L.map fun q => (q.1, f q.2)) = fun x => f (lastK κ L x)
  | [], _ => rfl
  | (c, k) :: L, κ => by
    have e : setK (fun x => f (κ x)) c (f k) = fun x => f (setK κ c k x) := by
      funext x
      by_cases hx : x = c
      · subst hx; rw [setK_same, setK_same]
      · rw [setK_ne hx, setK_ne hx]
    show lastK (setK (fun x => f (κ x)) c (f k)) _ = fun x => f (lastK (setK κ c k) L x)
    rw [e]
    exact lastK_map L (setK κ c k)
theorem count_made : ∀ (L : List (Nat × Nat)) (κ : Nat → Nat) (prev : Option Nat) (x : Nat), Valid κ prev L → (madeAux κ L).count x + κ x = lastK κ L x
  | [], _, _, _, _ => by simp [madeAux, lastK]
  | (c, k) :: L, κ, prev, x, ⟨_, g2, g3⟩ => by
    show (List.replicate (k - κ c) c ++ madeAux (setK κ c k) L).count x + κ x = lastK (setK κ c k) L x
    have ih := count_made L (setK κ c k) (some c) x g3
    rw [List.count_append, List.count_replicate, ← ih]
    by_cases hx : x = c
    · subst hx
      rw [setK_same, if_pos (by simp)]; omega
    · rw [setK_ne hx, if_neg (by simpa using fun q => hx q.symm)]; omega
/-- the last counts: from below, and one of those that stand -/
theorem lastK_ge : ∀ (L : List (Nat × Nat)) (κ : Nat → Nat) (prev : Option Nat), Valid κ prev L → (∀ x, κ x ≤ lastK κ L x) ∧ ∀ q ∈ L, q.2 ≤ lastK κ L q.1
  | [], κ, _, _ => ⟨fun _ => Nat.le_refl _, fun _ h => absurd h (by simp)⟩
  | (c, k) :: L, κ, prev, ⟨_, g2, g3⟩ => by
    obtain ⟨i1, i2⟩ := lastK_ge L (setK κ c k) (some c) g3
    have hc := i1 c
    rw [setK_same] at hc
    refine ⟨fun x => ?_, fun q hq => ?_⟩
    · have := i1 x
      by_cases hx : x = c
      · subst hx
        show κ x ≤ lastK (setK κ x k) L x
        omega
      · rw [setK_ne hx] at this
        exact this
    · rcases List.mem_cons.mp hq with rfl | hq
      · exact hc
      · exact i2 q hq
theorem lastK_mem : ∀ (L : List (Nat × Nat)) (κ : Nat → Nat) (x : Nat), lastK κ L x = κ x ∨ (x, lastK κ L x) ∈ L
  | [], _, _ => .inl rfl
  | (c, k) :: L, κ, x => by
    rcases lastK_mem L (setK κ c k) x with h | h
    · by_cases hx : x = c
      · subst hx
        rw [setK_same] at h
        refine .inr ?_
        show (x, lastK (setK κ x k) L x) ∈ _
        rw [h]
        exact List.mem_cons_self
      · rw [setK_ne hx] at h
        exact .inl h
    · exact .inr (List.mem_cons_of_mem _ h)
theorem made_mem : ∀ (L : List (Nat × Nat)) (κ : Nat → Nat) (x : Nat), x ∈ madeAux κ L → x ∈ L.map (·.1)
  | [], _, _, h => absurd h (by simp [madeAux])
  | (c, k) :: L, κ, x, h => by
    rcases List.mem_append.mp (show x ∈ List.replicate (k - κ c) c ++ madeAux (setK κ c k) L from h) with h | h
    · rw [(List.mem_replicate.mp h).2]
      exact List.mem_cons_self
    · exact List.mem_cons_of_mem _ (made_mem L _ x h)
theorem ends_mem : ∀ (w p : List Nat) (q : Nat × Nat), q ∈ endsAux p w → q.1 ∈ w
  | [], _, _, h => absurd h (by simp [endsAux])
  | [c], p, q, h => by
    have : q = (c, p.count c + 1) := by simpa [endsAux] using h
    rw [this]
    exact List.mem_cons_self
  | c :: d :: r, p, q, h => by
    rw [endsAux] at h
    split at h
    · exact List.mem_cons_of_mem _ (ends_mem (d :: r) _ q h)
    · rcases List.mem_cons.mp h with rfl | h
      · exact List.mem_cons_self
      · exact List.mem_cons_of_mem _ (ends_mem (d :: r) _ q h)
theorem ends_count : ∀ (w p : List Nat) (q : Nat × Nat), q ∈ endsAux p w → q.2 ≤ p.length + w.length
  | [], _, _, h => absurd h (by simp [endsAux])
  | [c], p, q, h => by
    have e : q = (c, p.count c + 1) := by simpa [endsAux] using h
    rw [e]
    have := List.count_le_length (l := p) (a := c)
    show p.count c + 1 ≤ p.length + 1
    omega
  | c :: d :: r, p, q, h => by
    have hp := List.count_le_length (l := p) (a := c)
    rw [endsAux] at h
    split at h
    · have := ends_count (d :: r) _ q h
      simp only [List.length_append, List.length_cons, List.length_nil] at this ⊢
      omega
    · rcases List.mem_cons.mp h with rfl | h
      · simp only [List.length_cons]
        omega
      · have := ends_count (d :: r) _ q h
        simp only [List.length_append, List.length_cons, List.length_nil] at this ⊢
        omega
theorem ends_len : ∀ (w p : List Nat), (endsAux p w).length ≤ w.length
  | [], _ => by simp [endsAux]
  | [c], p => by simp [endsAux]
  | c :: d :: r, p => by
    have := ends_len (d :: r) (p ++ [c])
    rw [endsAux]
    split
    · simp only [List.length_cons] at this ⊢; omega
    · simp only [List.length_cons] at this ⊢; omega
end K31
namespace K31
/-! ### marks and cores -/
theorem sorted_one : ∀ (a b : List Nat), a.Pairwise (· < ·) → b.Pairwise (· < ·) → (∀ x, x ∈ a ↔ x ∈ b) → a = b
  | [], [], _, _, _ => rfl
  | [], y :: b, _, _, h => absurd ((h y).2 List.mem_cons_self) (by simp)
  | x :: a, [], _, _, h => absurd ((h x).1 List.mem_cons_self) (by simp)
  | x :: a, y :: b, ha, hb, h => by
    obtain ⟨a1, a2⟩ := List.pairwise_cons.mp ha
    obtain ⟨b1, b2⟩ := List.pairwise_cons.mp hb
    have e : x = y := by
      rcases List.mem_cons.mp ((h x).1 List.mem_cons_self) with e | e
      · exact e
      · rcases List.mem_cons.mp ((h y).2 List.mem_cons_self) with e' | e'
        · exact e'.symm
        · have := a1 y e'
          have := b1 x e
          omega
    subst e
    rw [sorted_one a b a2 b2 fun z => ⟨fun hz => ?_, fun hz => ?_⟩]
    · rcases List.mem_cons.mp ((h z).1 (List.mem_cons_of_mem _ hz)) with e | e
      · have := a1 z hz; omega
      · exact e
    · rcases List.mem_cons.mp ((h z).2 (List.mem_cons_of_mem _ hz)) with e | e
      · have := b1 z hz; omega
      · exact e
def topK (L : List (Nat × Nat)) : Nat := L.foldr (fun q m => max q.2 m) 0
def marksL (L : List (Nat × Nat)) : List Nat := (List.range (topK L + 1)).filter fun k => k == 0 || (L.map fun q => q.2).contains k
theorem topK_ge : ∀ (L : List (Nat × Nat)) (k : Nat), k ∈ L.map (fun q => q.2) → k ≤ topK L
  | [], _, h => absurd h (by simp)
  | q :: L, k, h => by
    show k ≤ max q.2 (topK L)
    rcases List.mem_cons.mp h with e | h
    · have e : k = q.2 := e
      omega
    · have := topK_ge L k h; omega
theorem marks_mem {L : List (Nat × Nat)} {k : Nat} : k ∈ marksL L ↔ k = 0 ∨ k ∈ L.map fun q => q.2 := by
  unfold marksL
  rw [List.mem_filter, List.mem_range]
  simp only [Bool.or_eq_true, beq_iff_eq, List.contains_iff_mem]
  constructor
  · exact fun h => h.2
  · intro h
    refine ⟨?_, h⟩
    rcases h with h | h
    · omega
    · have := topK_ge L k h; omega
theorem marks_lt (L : List (Nat × Nat)) : (marksL L).Pairwise (· < ·) := List.Pairwise.filter _ List.pairwise_lt_range
theorem marks_nodup (L : List (Nat × Nat)) : (marksL L).Nodup := (marks_lt L).imp fun h => Nat.ne_of_lt h
theorem marks_head (L : List (Nat × Nat)) : (marksL L)[0]? = some 0 := by
  have h0 : 0 ∈ marksL L := marks_mem.2 (.inl rfl)
  have hp := marks_lt L
  cases hm : marksL L with
  | nil => rw [hm] at h0; simp at h0
  | cons x r =>
    rw [hm] at h0 hp
    rcases List.mem_cons.mp h0 with e | e
    · rw [← e]; rfl
    · have := (List.pairwise_cons.mp hp).1 0 e; omega
/-- the place of a number in a rising list -/
def ix (M : List Nat) (k : Nat) : Nat := M.idxOf k
theorem ix_at {M : List Nat} {k : Nat} (h : k ∈ M) : M[ix M k]? = some k := by
  have hl : ix M k < M.length := List.idxOf_lt_length_of_mem h
  rw [List.getElem?_eq_getElem hl]
  exact congrArg some (List.getElem_idxOf hl)
theorem ix_lt {M : List Nat} {k : Nat} (h : k ∈ M) : ix M k < M.length := List.idxOf_lt_length_of_mem h
theorem ix_of {M : List Nat} (hM : M.Nodup) {i k : Nat} (h : M[i]? = some k) : ix M k = i := by
  have hk : k ∈ M := List.mem_of_getElem? h
  obtain ⟨h1, e1⟩ := List.getElem?_eq_some_iff.mp h
  obtain ⟨h2, e2⟩ := List.getElem?_eq_some_iff.mp (ix_at hk)
  exact (List.getElem_inj hM).mp (e2.trans e1.symm)
theorem ix_mono {M : List Nat} (hM : M.Pairwise (· < ·)) {a b : Nat} (ha : a ∈ M) (hb : b ∈ M) (h : a < b) : ix M a < ix M b := by
  obtain ⟨h1, e1⟩ := List.getElem?_eq_some_iff.mp (ix_at ha)
  obtain ⟨h2, e2⟩ := List.getElem?_eq_some_iff.mp (ix_at hb)
  rcases Nat.lt_trichotomy (ix M a) (ix M b) with g | g | g
  · exact g
  · have : a = b := by rw [← e1, ← e2]; congr 1
    omega
  · have := List.pairwise_iff_getElem.mp hM _ _ h2 h1 g
    omega
theorem ix_first {M : List Nat} {k : Nat} : ∀ m, m < ix M k → M[m]? ≠ some k := by
  unfold ix
  induction M with
  | nil => intro m _ e; simp at e
  | cons x M ih =>
    intro m hm e
    rw [List.idxOf_cons] at hm
    cases m with
    | zero =>
      have e : x = k := by simpa using e
      subst e
      simp at hm
    | succ m =>
      by_cases hx : x = k
      · subst hx; simp at hm
      · rw [beq_false_of_ne hx] at hm
        exact ih m (by simpa using hm) (by simpa using e)
theorem ix_zero (L : List (Nat × Nat)) : ix (marksL L) 0 = 0 := ix_of (marks_nodup L) (marks_head L)

/-- the runs of the core, the core -/
def ranks (w : List Nat) : List (Nat × Nat) := (ends w).map fun q => (q.1, ix (marksL (ends w)) q.2)
def core (w : List Nat) : List Nat := made (ranks w)
def many (w : List Nat) : Nat := (marksL (ends w)).length - 1
theorem marks_pos (L : List (Nat × Nat)) : 0 < (marksL L).length := by
  obtain ⟨h, _⟩ := List.getElem?_eq_some_iff.mp (marks_head L)
  exact h
theorem ranks_valid (w : List Nat) : Valid (fun _ => 0) none (ranks w) := by
  have h := valid_map (f := ix (marksL (ends w))) (S := fun k => k ∈ marksL (ends w)) (fun a b ha hb hab => ix_mono (marks_lt _) ha hb hab) (ends w) (fun _ => 0) none (fun _ => marks_mem.2 (.inl rfl)) (fun q hq => marks_mem.2 (.inr (List.mem_map.mpr ⟨q, hq, rfl⟩))) (ends_valid w)
  simp only [ix_zero] at h
  exact h
theorem ends_core (w : List Nat) : ends (core w) = ranks w := endsAux_made (ranks w) (fun _ => 0) none [] (ranks_valid w) fun _ => by simp
theorem rank_lt {w : List Nat} {q : Nat × Nat} (h : q ∈ ranks w) : q.2 < (marksL (ends w)).length := by
  obtain ⟨p, hp, rfl⟩ := List.mem_map.mp h
  exact ix_lt (marks_mem.2 (.inr (List.mem_map.mpr ⟨p, hp, rfl⟩)))
theorem marks_core (w : List Nat) : marksL (ends (core w)) = List.range ((marksL (ends w)).length) := by
  rw [ends_core]
  refine sorted_one _ _ (marks_lt _) List.pairwise_lt_range fun k => ?_
  rw [marks_mem, List.mem_range]
  constructor
  · rintro (e | h)
    · have := marks_pos (ends w); omega
    · obtain ⟨q, hq, rfl⟩ := List.mem_map.mp h
      exact rank_lt hq
  · intro hk
    have hx : (marksL (ends w))[k] ∈ marksL (ends w) := List.getElem_mem hk
    have he : ix (marksL (ends w)) (marksL (ends w))[k] = k := ix_of (marks_nodup _) (List.getElem?_eq_getElem hk)
    rcases marks_mem.1 hx with h | h
    · refine .inl ?_
      rw [h, ix_zero] at he
      exact he.symm
    · obtain ⟨q, hq, e⟩ := List.mem_map.mp h
      refine .inr (List.mem_map.mpr ⟨(q.1, ix (marksL (ends w)) q.2), List.mem_map.mpr ⟨q, hq, rfl⟩, ?_⟩)
      show ix (marksL (ends w)) q.2 = k
      have e : q.2 = (marksL (ends w))[k] := e
      rw [e, he]
theorem ix_range {n k : Nat} (h : k < n) : ix (List.range n) k = k := ix_of List.nodup_range (by rw [List.getElem?_range h])
theorem ranks_core (w : List Nat) : ranks (core w) = ranks w := by
  unfold ranks
  rw [marks_core, ends_core]
  unfold ranks
  rw [List.map_map]
  refine List.map_congr_left fun q hq => ?_
  show (q.1, ix (List.range (marksL (ends w)).length) (ix (marksL (ends w)) q.2)) = (q.1, ix (marksL (ends w)) q.2)
  rw [ix_range (rank_lt (w := w) (q := (q.1, ix (marksL (ends w)) q.2)) (List.mem_map.mpr ⟨q, hq, rfl⟩))]
/-- a core is its own core -/
theorem core_core (w : List Nat) : core (core w) = core w := by
  show made (ranks (core w)) = made (ranks w)
  rw [ranks_core]
theorem many_core (w : List Nat) : (marksL (ends (core w))).length = many w + 1 := by
  rw [marks_core, List.length_range]
  have := marks_pos (ends w)
  unfold many
  omega
theorem core_letters {w : List Nat} (h : ∀ x ∈ w, 97 ≤ x ∧ x ≤ 100) : ∀ x ∈ core w, 97 ≤ x ∧ x ≤ 100 := fun x hx => by
  have := made_mem (ranks w) (fun _ => 0) x hx
  unfold ranks at this
  rw [List.map_map] at this
  obtain ⟨q, hq, e⟩ := List.mem_map.mp this
  have e : q.1 = x := e
  rw [← e]
  exact h _ (ends_mem w [] q hq)

/-! ### lengths -/
/-- how often a, b, c, d stand -/
def tally (w : List Nat) : List Nat := [w.count 97, w.count 98, w.count 99, w.count 100]
theorem length_tally : ∀ (w : List Nat), (∀ x ∈ w, 97 ≤ x ∧ x ≤ 100) → w.length = (tally w).sum
  | [], _ => rfl
  | c :: w, h => by
    have ih := length_tally w fun x hx => h x (List.mem_cons_of_mem _ hx)
    obtain ⟨h1, h2⟩ := h c List.mem_cons_self
    have : c = 97 ∨ c = 98 ∨ c = 99 ∨ c = 100 := by omega
    simp only [tally, List.sum_cons, List.sum_nil, List.length_cons] at ih ⊢
    rcases this with rfl | rfl | rfl | rfl <;> simp <;> omega
def lev (ns : List Nat) : Nat := ns.foldr max 0
theorem lev_le : ∀ (ns : List Nat) (n : Nat), n ∈ ns → n ≤ lev ns
  | [], _, h => absurd h (by simp)
  | m :: ns, n, h => by
    show n ≤ max m (lev ns)
    rcases List.mem_cons.mp h with e | h
    · omega
    · have := lev_le ns n h; omega
theorem lev_mem : ∀ (ns : List Nat), lev ns = 0 ∨ lev ns ∈ ns
  | [] => .inl rfl
  | m :: ns => by
    have e : lev (m :: ns) = max m (lev ns) := rfl
    rcases Nat.le_total m (lev ns) with h | h
    · rw [e, Nat.max_eq_right h]
      exact (lev_mem ns).imp_right fun g => List.mem_cons_of_mem _ g
    · rw [e, Nat.max_eq_left h]
      exact .inr List.mem_cons_self
theorem count_core (w : List Nat) (x : Nat) : (core w).count x = lastK (fun _ => 0) (ranks w) x := count_made (ranks w) (fun _ => 0) none x (ranks_valid w)
theorem count_le {w : List Nat} (x : Nat) : (core w).count x ≤ many w := by
  rw [count_core]
  rcases lastK_mem (ranks w) (fun _ => 0) x with h | h
  · rw [h]; exact Nat.zero_le _
  · have := rank_lt h
    have := marks_pos (ends w)
    show _ ≤ (marksL (ends w)).length - 1
    omega
theorem lev_core {w : List Nat} (h : ∀ x ∈ w, 97 ≤ x ∧ x ≤ 100) : lev (tally (core w)) = many w := by
  apply Nat.le_antisymm
  · rcases lev_mem (tally (core w)) with e | e
    · rw [e]; exact Nat.zero_le _
    · simp only [tally, List.mem_cons, List.not_mem_nil, or_false] at e
      rcases e with e | e | e | e <;> (rw [show tally (core w) = [(core w).count 97, (core w).count 98, (core w).count 99, (core w).count 100] from rfl, e]; exact count_le _)
  · by_cases hm : many w = 0
    · rw [hm]; exact Nat.zero_le _
    · have hk : many w ∈ marksL (ends (core w)) := by
        rw [marks_core, List.mem_range]
        have := marks_pos (ends w)
        show (marksL (ends w)).length - 1 < _
        omega
      rw [ends_core] at hk
      rcases marks_mem.1 hk with e | e
      · exact absurd e hm
      · obtain ⟨q, hq, e⟩ := List.mem_map.mp e
        have e : q.2 = many w := e
        have h1 := (lastK_ge (ranks w) (fun _ => 0) none (ranks_valid w)).2 q hq
        rw [e, ← count_core] at h1
        have hc : 97 ≤ q.1 ∧ q.1 ≤ 100 := by
          obtain ⟨p, hp, rfl⟩ := List.mem_map.mp hq
          exact h _ (ends_mem w [] p hp)
        refine Nat.le_trans h1 (lev_le _ _ ?_)
        have : q.1 = 97 ∨ q.1 = 98 ∨ q.1 = 99 ∨ q.1 = 100 := by omega
        simp only [tally, List.mem_cons, List.not_mem_nil, or_false]
        rcases this with e | e | e | e <;> rw [e] <;> simp
/-- sums of the first gaps -/
def sumTo (g : List Nat) (n : Nat) : Nat := (g.take n).sum
theorem sumTo_succ {g : List Nat} {n : Nat} (h : n < g.length) : sumTo g (n + 1) = sumTo g n + g[n] := by
  unfold sumTo
  rw [List.take_add_one, List.getElem?_eq_getElem h]
  rw [List.sum_append]
  simp
theorem sumTo_lt {g : List Nat} (hg : ∀ x ∈ g, 1 ≤ x) : ∀ (d a : Nat), a + d + 1 ≤ g.length → sumTo g a < sumTo g (a + d + 1)
  | 0, a, h => by
    rw [Nat.add_zero, sumTo_succ (by omega)]
    have := hg g[a] (List.getElem_mem (by omega))
    omega
  | d + 1, a, h => by
    have ih := sumTo_lt hg d a (by omega)
    rw [show a + (d + 1) + 1 = (a + d + 1) + 1 by omega, sumTo_succ (by omega)]
    omega
def grown (w : List Nat) (g : List Nat) : List Nat := made ((ends (core w)).map fun q => (q.1, sumTo g q.2))
theorem grown_len {w g : List Nat} (h : ∀ x ∈ w, 97 ≤ x ∧ x ≤ 100) (hl : g.length = many w) (hg : ∀ x ∈ g, 1 ≤ x) : (grown w g).length = ((tally (core w)).map (sumTo g)).sum := by
  have hS : ∀ q ∈ ranks w, q.2 ≤ g.length := fun q hq => by
    have := rank_lt hq
    rw [hl]
    show _ ≤ (marksL (ends w)).length - 1
    omega
  have v := valid_map (f := sumTo g) (S := fun k => k ≤ g.length) (fun a b _ hb hab => by
    obtain ⟨d, rfl⟩ : ∃ d, b = a + d + 1 := ⟨b - a - 1, by omega⟩
    exact sumTo_lt hg d a hb) (ranks w) (fun _ => 0) none (fun _ => Nat.zero_le _) hS (ranks_valid w)
  have e0 : (fun x : Nat => sumTo g ((fun _ => 0) x)) = fun _ => 0 := by
    funext x
    show (g.take 0).sum = 0
    simp
  rw [e0] at v
  have hc : ∀ x, (grown w g).count x = sumTo g ((core w).count x) := fun x => by
    have h1 := count_made _ _ none x v
    have h2 := congrFun (lastK_map (f := sumTo g) (ranks w) (fun _ => 0)) x
    rw [e0] at h2
    rw [h2, ← count_core] at h1
    unfold grown
    rw [ends_core]
    exact h1
  rw [length_tally (grown w g) fun x hx => ?_]
  · simp only [tally, hc, List.map_cons, List.map_nil]
  · unfold grown at hx
    rw [ends_core] at hx
    have := made_mem _ (fun _ => 0) x hx
    rw [List.map_map] at this
    obtain ⟨q, hq, e⟩ := List.mem_map.mp this
    have e : q.1 = x := e
    obtain ⟨p, hp, rfl⟩ := List.mem_map.mp hq
    rw [← e]
    exact h _ (ends_mem w [] p hp)

/-! ### coins -/
def coinsR : Nat → List Nat → List Nat
  | 0, _ => []
  | k + 1, ns => ns.countP (fun n => decide (0 < n)) :: coinsR k (ns.map fun n => n - 1)
def dot : List Nat → List Nat → Nat
  | x :: g, c :: cs => x * c + dot g cs
  | _, _ => 0
theorem coinsR_map : ∀ (k : Nat) (ns : List Nat), coinsR k ns = (List.range k).map fun l => ns.countP fun n => decide (l + 1 ≤ n)
  | 0, _ => rfl
  | k + 1, ns => by
    rw [List.range_succ_eq_map, List.map_cons, List.map_map]
    show _ :: coinsR k (ns.map fun n => n - 1) = _
    rw [coinsR_map k]
    congr 1
    refine List.map_congr_left fun l _ => ?_
    rw [List.countP_map]
    refine List.countP_congr fun n _ => ?_
    show decide (l + 1 ≤ n - 1) = true ↔ decide (l + 1 + 1 ≤ n) = true
    rw [decide_eq_true_eq, decide_eq_true_eq]
    omega
theorem sumTo_dot : ∀ (g ns : List Nat), (∀ n ∈ ns, n ≤ g.length) → (ns.map (sumTo g)).sum = dot g (coinsR g.length ns)
  | [], ns, h => by
    show _ = 0
    clear h
    induction ns with
    | nil => rfl
    | cons n ns ih =>
      rw [List.map_cons, List.sum_cons, ih]
      simp [sumTo]
  | x :: g, ns, h => by
    show _ = x * ns.countP (fun n => decide (0 < n)) + dot g (coinsR g.length (ns.map fun n => n - 1))
    rw [← sumTo_dot g (ns.map fun n => n - 1) fun n hn => ?_]
    · have key : ∀ ms : List Nat, (ms.map (sumTo (x :: g))).sum = x * ms.countP (fun n => decide (0 < n)) + ((ms.map fun n => n - 1).map (sumTo g)).sum := by
        intro ms
        induction ms with
        | nil => simp
        | cons m ms ih =>
          rw [List.map_cons, List.sum_cons, ih, List.countP_cons, List.map_cons, List.map_cons, List.sum_cons]
          cases m with
          | zero => simp [sumTo]
          | succ m =>
            have e : sumTo (x :: g) (m + 1) = x + sumTo g m := by simp [sumTo]
            rw [e]
            simp only [Nat.add_sub_cancel, Nat.zero_lt_succ, decide_true, if_true, Nat.mul_add, Nat.mul_one]
            omega
      exact key ns
    · obtain ⟨m, hm, rfl⟩ := List.mem_map.mp hn
      have := h m hm
      simp only [List.length_cons] at this
      omega
end K31
namespace K31
/-! ### the runs, letter by letter and place by place -/
/-- the runs so far behind i letters -/
def RunInv (w : List Nat) (i : Nat) (fl : List (Nat × Nat)) : Prop :=
  (i = 0 ∧ fl = []) ∨ ∃ F p c, w.take i = p ++ [c] ∧ fl = F ++ [(c, (w.take i).count c)] ∧ F ++ endsAux p (c :: w.drop i) = ends w
theorem take_succ {w : List Nat} {i c : Nat} (h : w[i]? = some c) : w.take (i + 1) = w.take i ++ [c] := by
  rw [List.take_add_one, h]
  rfl
theorem drop_at {w : List Nat} {i c : Nat} (h : w[i]? = some c) : w.drop i = c :: w.drop (i + 1) := by
  obtain ⟨h1, e⟩ := List.getElem?_eq_some_iff.mp h
  rw [List.drop_eq_getElem_cons h1, e]
theorem run_new {w : List Nat} {i c : Nat} {fl : List (Nat × Nat)} (h : RunInv w i fl) (hc : w[i]? = some c) (hn : fl = [] ∨ ∃ F d k, fl = F ++ [(d, k)] ∧ d ≠ c) : RunInv w (i + 1) (fl ++ [(c, (w.take (i + 1)).count c)]) := by
  refine .inr ⟨fl, w.take i, c, take_succ hc, rfl, ?_⟩
  rcases h with ⟨rfl, rfl⟩ | ⟨F, p, d, h1, h2, h3⟩
  · show endsAux (w.take 0) (c :: w.drop 1) = ends w
    have : w = c :: w.drop 1 := by
      have := drop_at hc
      rw [List.drop_zero] at this
      exact this
    rw [List.take_zero, ← this]
    rfl
  · have hd : d ≠ c := by
      rcases hn with e | ⟨F', d', k', e, hd⟩
      · rw [e] at h2
        simp at h2
      · rw [e] at h2
        obtain ⟨_, e2⟩ := List.append_inj' h2 rfl
        simp only [List.cons.injEq, Prod.mk.injEq, and_true] at e2
        rw [← e2.1]
        exact hd
    rw [drop_at hc, endsAux, if_neg hd, ← h1] at h3
    rw [h2, List.append_assoc, ← h3]
    congr 1
    show (d, List.count d (w.take i)) :: _ = _
    congr 2
    rw [h1, count_snoc, if_pos rfl]
theorem run_same {w : List Nat} {i c k : Nat} {F : List (Nat × Nat)} (h : RunInv w i (F ++ [(c, k)])) (hc : w[i]? = some c) : RunInv w (i + 1) (F ++ [(c, (w.take (i + 1)).count c)]) := by
  rcases h with ⟨_, e⟩ | ⟨F', p, d, h1, h2, h3⟩
  · simp at e
  · obtain ⟨e1, e2⟩ := List.append_inj' h2 rfl
    simp only [List.cons.injEq, Prod.mk.injEq, and_true] at e2
    obtain ⟨rfl, _⟩ := e2
    subst e1
    refine .inr ⟨F, w.take i, c, take_succ hc, rfl, ?_⟩
    rw [drop_at hc, endsAux, if_pos rfl, ← h1] at h3
    exact h3
theorem run_end {w : List Nat} {fl : List (Nat × Nat)} (h : RunInv w w.length fl) : fl = ends w := by
  rcases h with ⟨h1, rfl⟩ | ⟨F, p, c, h1, h2, h3⟩
  · have : w = [] := List.length_eq_zero_iff.mp h1
    subst this
    rfl
  · rw [List.drop_length] at h3
    rw [h2, ← h3, endsAux, h1, count_snoc, if_pos rfl]
theorem run_letter {w : List Nat} {i : Nat} {fl : List (Nat × Nat)} (h : RunInv w i fl) : ∀ q ∈ fl, q.1 ∈ w := by
  rcases h with ⟨_, rfl⟩ | ⟨F, p, c, h1, h2, h3⟩
  · simp
  · intro q hq
    rw [h2] at hq
    rcases List.mem_append.mp hq with hq | hq
    · refine ends_mem w [] q ?_
      show q ∈ ends w
      rw [← h3]
      exact List.mem_append_left _ hq
    · rw [List.mem_singleton.mp hq]
      have : c ∈ w.take i := by rw [h1]; simp
      exact List.mem_of_mem_take this
theorem run_len {w : List Nat} {i : Nat} {fl : List (Nat × Nat)} (h : RunInv w i fl) : fl.length ≤ w.length + 1 := by
  rcases h with ⟨_, rfl⟩ | ⟨F, p, c, h1, h2, h3⟩
  · simp
  · have e := congrArg List.length h3
    have := ends_len w []
    rw [List.length_append] at e
    rw [h2, List.length_append]
    have e' : (ends w).length ≤ w.length := this
    simp only [List.length_singleton]
    omega
/-- by places: what is found ahead of place i, and what is left -/
def EndInv (w : List Nat) (i : Nat) (fl : List (Nat × Nat)) : Prop := fl ++ endsAux (w.take i) (w.drop i) = ends w
theorem end_start (w : List Nat) : EndInv w 0 [] := by
  show endsAux (w.take 0) (w.drop 0) = ends w
  rw [List.take_zero, List.drop_zero]
  rfl
theorem end_yes {w : List Nat} {i c : Nat} {fl : List (Nat × Nat)} (h : EndInv w i fl) (hc : w[i]? = some c) (hn : i + 1 = w.length ∨ ∃ d, w[i + 1]? = some d ∧ d ≠ c) : EndInv w (i + 1) (fl ++ [(c, (w.take (i + 1)).count c)]) := by
  unfold EndInv at h ⊢
  rw [← h, drop_at hc, List.append_assoc]
  congr 1
  rcases hn with e | ⟨d, hd, hne⟩
  · rw [e, List.drop_length, List.take_length, endsAux, endsAux]
    have := take_succ hc
    rw [e, List.take_length] at this
    show [(c, w.count c)] = [(c, List.count c (w.take i) + 1)]
    rw [show w.count c = (w.take i ++ [c]).count c by rw [← this], count_snoc, if_pos rfl]
  · rw [drop_at hd, endsAux, if_neg fun e => hne e.symm, take_succ hc, count_snoc, if_pos rfl]
    rfl
theorem end_no {w : List Nat} {i c : Nat} {fl : List (Nat × Nat)} (h : EndInv w i fl) (hc : w[i]? = some c) (hd : w[i + 1]? = some c) : EndInv w (i + 1) fl := by
  unfold EndInv at h ⊢
  rw [← h, drop_at hc, drop_at hd, endsAux, if_pos rfl, take_succ hc]
theorem end_end {w : List Nat} {fl : List (Nat × Nat)} (h : EndInv w w.length fl) : fl = ends w := by
  unfold EndInv at h
  rw [← h, List.drop_length, endsAux, List.append_nil]
theorem end_len {w : List Nat} {i : Nat} {fl : List (Nat × Nat)} (h : EndInv w i fl) : fl.length ≤ w.length := by
  have e := congrArg List.length h
  have : (ends w).length ≤ w.length := ends_len w []
  rw [List.length_append] at e
  omega
/-- made, letter by letter -/
theorem made_snoc : ∀ (L : List (Nat × Nat)) (κ : Nat → Nat) (c k : Nat), madeAux κ (L ++ [(c, k)]) = madeAux κ L ++ List.replicate (k - lastK κ L c) c
  | [], κ, c, k => by simp [madeAux, lastK]
  | (d, j) :: L, κ, c, k => by
    show List.replicate (j - κ d) d ++ madeAux (setK κ d j) (L ++ [(c, k)]) = (List.replicate (j - κ d) d ++ madeAux (setK κ d j) L) ++ _
    rw [made_snoc L (setK κ d j) c k, List.append_assoc]
    rfl
theorem lastK_snoc : ∀ (L : List (Nat × Nat)) (κ : Nat → Nat) (c k : Nat), lastK κ (L ++ [(c, k)]) = setK (lastK κ L) c k
  | [], _, _, _ => rfl
  | (d, j) :: L, κ, c, k => lastK_snoc L (setK κ d j) c k
theorem made_len : ∀ (L : List (Nat × Nat)) (κ : Nat → Nat) (B : Nat), (∀ q ∈ L, q.2 ≤ B) → (madeAux κ L).length ≤ L.length * B
  | [], _, _, _ => by simp [madeAux]
  | (c, k) :: L, κ, B, h => by
    have ih := made_len L (setK κ c k) B fun q hq => h q (List.mem_cons_of_mem _ hq)
    have hk : k ≤ B := h (c, k) List.mem_cons_self
    show (List.replicate (k - κ c) c ++ madeAux (setK κ c k) L).length ≤ (L.length + 1) * B
    rw [List.length_append, List.length_replicate, Nat.add_mul]
    omega
/-- a rank is no more than what it ranks -/
theorem rank_le {M : List Nat} (hM : M.Pairwise (· < ·)) : ∀ (i : Nat) (h : i < M.length), i ≤ M[i]
  | 0, _ => Nat.zero_le _
  | i + 1, h => by
    have ih := rank_le hM i (by omega)
    have := List.pairwise_iff_getElem.mp hM i (i + 1) (by omega) h (by omega)
    omega
theorem ix_le {M : List Nat} (hM : M.Pairwise (· < ·)) {k : Nat} (h : k ∈ M) : ix M k ≤ k := by
  obtain ⟨h1, e⟩ := List.getElem?_eq_some_iff.mp (ix_at h)
  have := rank_le hM _ h1
  omega
theorem lastK_le {L : List (Nat × Nat)} : ∀ (κ κ' : Nat → Nat) (f : Nat → Nat), (∀ x, κ' x ≤ κ x) → (∀ q ∈ L, f q.2 ≤ q.2) → ∀ x, lastK κ' (L.map fun q => (q.1, f q.2)) x ≤ lastK κ L x := by
  induction L with
  | nil => exact fun κ κ' f h _ x => h x
  | cons q L ih =>
    obtain ⟨c, k⟩ := q
    intro κ κ' f h hf x
    refine ih (setK κ c k) (setK κ' c (f k)) f (fun y => ?_) (fun q hq => hf q (List.mem_cons_of_mem _ hq)) x
    by_cases hy : y = c
    · subst hy; rw [setK_same, setK_same]; exact hf (y, k) List.mem_cons_self
    · rw [setK_ne hy, setK_ne hy]; exact h y
theorem made_ends_count (w : List Nat) (x : Nat) : lastK (fun _ => 0) (ends w) x ≤ w.count x := by
  have key : ∀ (r p : List Nat) (κ : Nat → Nat), (∀ x, κ x ≤ (p ++ r).count x) → ∀ x, lastK κ (endsAux p r) x ≤ (p ++ r).count x := by
    intro r
    induction r with
    | nil => exact fun p κ h x => h x
    | cons c r ih =>
      intro p κ h x
      cases r with
      | nil =>
        show setK κ c (p.count c + 1) x ≤ _
        by_cases hx : x = c
        · subst hx; rw [setK_same, count_snoc, if_pos rfl]; exact Nat.le_refl _
        · rw [setK_ne hx]; exact h x
      | cons d r =>
        have e : p ++ c :: d :: r = (p ++ [c]) ++ d :: r := by simp
        rw [endsAux]
        split
        · rw [e]
          exact ih (p ++ [c]) κ (fun y => by rw [← e]; exact h y) x
        · show lastK (setK κ c (p.count c + 1)) (endsAux (p ++ [c]) (d :: r)) x ≤ _
          rw [e]
          refine ih (p ++ [c]) _ (fun y => ?_) x
          by_cases hy : y = c
          · subst hy
            rw [setK_same, List.count_append, count_snoc, if_pos rfl]
            omega
          · rw [setK_ne hy, ← e]; exact h y
  exact key w [] (fun _ => 0) (fun _ => Nat.zero_le _) x
theorem core_count_le (w : List Nat) (x : Nat) : (core w).count x ≤ w.count x := by
  rw [count_core]
  refine Nat.le_trans ?_ (made_ends_count w x)
  exact lastK_le (L := ends w) (fun _ => 0) (fun _ => 0) (ix (marksL (ends w))) (fun _ => Nat.le_refl _) (fun q hq => ix_le (marks_lt _) (marks_mem.2 (.inr (List.mem_map.mpr ⟨q, hq, rfl⟩)))) x
theorem core_len {w : List Nat} (h : ∀ x ∈ w, 97 ≤ x ∧ x ≤ 100) : (core w).length ≤ w.length := by
  rw [length_tally _ (core_letters h), length_tally _ h]
  have a := core_count_le w 97
  have b := core_count_le w 98
  have c := core_count_le w 99
  have d := core_count_le w 100
  simp only [tally, List.sum_cons, List.sum_nil]
  omega
end K31

set_option maxHeartbeats 4000000
namespace K31
/-! ### what payments, gaps_of_length and _law_rows make -/
def payStep (coin : Nat) (ws : List Nat) (j : Nat) : List Nat := ws.set (coin + j) (ws.getD (coin + j) 0 + ws.getD j 0)
def payN (coin : Nat) (ws : List Nat) (n : Nat) : List Nat := (List.range n).foldl (payStep coin) ws
def pay1 (most : Nat) (ws : List Nat) (coin : Nat) : List Nat := payN coin ws (most + 1 - coin)
def pay (told : List Nat) (most : Nat) : List Nat := told.foldl (pay1 most) (1 :: List.replicate most 0)
theorem payN_succ (coin : Nat) (ws : List Nat) (n : Nat) : payN coin ws (n + 1) = payStep coin (payN coin ws n) n := by
  unfold payN
  rw [List.range_succ, List.foldl_append]
  rfl
theorem payN_len (coin : Nat) (ws : List Nat) : ∀ n, (payN coin ws n).length = ws.length
  | 0 => rfl
  | n + 1 => by
    rw [payN_succ, payStep, List.length_set]
    exact payN_len coin ws n
theorem pay_len (most : Nat) : ∀ (told ws : List Nat), (told.foldl (pay1 most) ws).length = ws.length
  | [], _ => rfl
  | c :: told, ws => by
    rw [List.foldl_cons, pay_len most told, pay1, payN_len]
theorem pay_length (told : List Nat) (most : Nat) : (pay told most).length = most + 1 := by
  unfold pay
  rw [pay_len]
  simp
theorem fold_take {α β : Type} {f : β → α → β} {b : β} {l : List α} {i : Nat} {a : α} (h : l[i]? = some a) : (l.take (i + 1)).foldl f b = f ((l.take i).foldl f b) a := by
  rw [List.take_add_one, h, List.foldl_append]
  rfl
/-- the gaps' rows, coin by coin -/
def stepG1 (rest coin : Nat) (q : List Nat × Nat) : List (List Nat × Nat) := (List.range ((q.2 - rest) / coin)).map fun j => (q.1 ++ [j + 1], q.2 - (j + 1) * coin)
def stepG (rest coin : Nat) (found : List (List Nat × Nat)) : List (List Nat × Nat) := found.flatMap (stepG1 rest coin)
def gapsAux : List Nat → List (List Nat × Nat) → List (List Nat × Nat)
  | [], f => f
  | c :: cs, f => gapsAux cs (stepG cs.sum c f)
def maxG : List Nat → List (List Nat × Nat) → Nat
  | [], f => f.length
  | c :: cs, f => max f.length (maxG cs (stepG cs.sum c f))
def gapsM (told : List Nat) (size : Nat) : List (List Nat) := ((gapsAux told [([], size)]).filter fun q => q.2 == 0).map fun q => q.1
/-- behind i coins -/
def stageG (told : List Nat) (size i : Nat) : List (List Nat × Nat) := (List.range i).foldl (fun f k => stepG (told.drop (k + 1)).sum (told.getD k 0) f) [([], size)]
theorem stageG_succ (told : List Nat) (size i : Nat) : stageG told size (i + 1) = stepG (told.drop (i + 1)).sum (told.getD i 0) (stageG told size i) := by
  unfold stageG
  rw [List.range_succ, List.foldl_append]
  rfl
theorem stage_gaps (told : List Nat) (size : Nat) : ∀ (n i : Nat), n = told.length - i → i ≤ told.length → gapsAux (told.drop i) (stageG told size i) = stageG told size told.length ∧ ∀ k, i ≤ k → k ≤ told.length → (stageG told size k).length ≤ maxG (told.drop i) (stageG told size i)
  | 0, i, h, hi => by
    have e : i = told.length := by omega
    subst e
    rw [List.drop_length]
    refine ⟨rfl, fun k h1 h2 => ?_⟩
    have : k = told.length := by omega
    subst this
    exact Nat.le_refl _
  | n + 1, i, h, hi => by
    have hl : i < told.length := by omega
    obtain ⟨i1, i2⟩ := stage_gaps told size n (i + 1) (by omega) hl
    have e : told.drop i = told[i] :: told.drop (i + 1) := List.drop_eq_getElem_cons hl
    have e2 : told.getD i 0 = told[i] := by simp [List.getD, hl]
    rw [stageG_succ, e2] at i1 i2
    rw [e]
    refine ⟨i1, fun k h1 h2 => ?_⟩
    show _ ≤ max _ _
    by_cases hk : k = i
    · subst hk
      omega
    · have := i2 k (by omega) h2
      omega
theorem gapsM_stage (told : List Nat) (size : Nat) : gapsM told size = ((stageG told size told.length).filter fun q => q.2 == 0).map fun q => q.1 := by
  have h := (stage_gaps told size told.length 0 (by omega) (Nat.zero_le _)).1
  rw [List.drop_zero] at h
  unfold gapsM
  rw [← h]
  rfl
theorem stage_bound (told : List Nat) (size k : Nat) (hk : k ≤ told.length) : (stageG told size k).length ≤ maxG told [([], size)] := by
  have h := (stage_gaps told size told.length 0 (by omega) (Nat.zero_le _)).2 k (Nat.zero_le _) hk
  rw [List.drop_zero] at h
  exact h
/-- what the law's rows are -/
def stepR (top : Nat) (found : List (List Nat)) : List (List Nat) := found.flatMap fun row => (List.range top).map fun j => row ++ [j + 1]
def rowsM (top : Nat) : Nat → List (List Nat)
  | 0 => [[]]
  | m + 1 => stepR top (rowsM top m)
theorem flatMap_len {α β : Type} (f : α → List β) (n : Nat) : ∀ l : List α, (∀ a ∈ l, (f a).length = n) → (l.flatMap f).length = l.length * n
  | [], _ => by simp
  | a :: l, h => by
    rw [List.flatMap_cons, List.length_append, flatMap_len f n l fun b hb => h b (List.mem_cons_of_mem _ hb), h a List.mem_cons_self, List.length_cons, Nat.add_mul]
    omega
theorem rowsM_len (top : Nat) : ∀ m, (rowsM top m).length = top ^ m
  | 0 => rfl
  | m + 1 => by
    rw [rowsM, stepR, flatMap_len _ top _ fun a _ => by simp, rowsM_len top m, Nat.pow_succ]
theorem rowsM_mem (top : Nat) : ∀ m, ∀ g ∈ rowsM top m, g.length = m ∧ ∀ x ∈ g, 1 ≤ x ∧ x ≤ top
  | 0, g, h => by
    have : g = [] := by simpa [rowsM] using h
    subst this
    exact ⟨rfl, fun _ h => absurd h (by simp)⟩
  | m + 1, g, h => by
    obtain ⟨row, hr, hg⟩ := List.mem_flatMap.mp h
    obtain ⟨j, hj, rfl⟩ := List.mem_map.mp hg
    obtain ⟨h1, h2⟩ := rowsM_mem top m row hr
    have hj := List.mem_range.mp hj
    refine ⟨by simp [h1], fun x hx => ?_⟩
    rcases List.mem_append.mp hx with hx | hx
    · exact h2 x hx
    · rw [List.mem_singleton.mp hx]
      omega
/-- what greatest_missing makes -/
def missM (cs : List Nat) : List Nat := (List.range 41).filter fun k => (pay cs 40).getD k 0 == 0
def gcdM (cs : List Nat) : Nat := cs.foldl Nat.gcd 0
def countsM (n : Nat) (cs : List Nat) (most : Nat) : List Nat := (List.range (most + 1)).map fun s => if n ≤ s then (pay cs most).getD (s - n) 0 else 0
end K31

set_option maxRecDepth 100000
set_option maxHeartbeats 8000000
namespace K31
open PySem PySem.Spec PyProof.Rows L2 Evl StX
section
variable {P : Program} {w : World} {K : PySem.W.Frag} {mg : Str → Option Value} {base : Heap}
theorem Nms.lt (Y : Nms mg) : ∃ t, mg "LETTERS" = some (.str (wd [97, 98, 99, 100]) t) := by
  rw [← letters_wd]
  exact Y.letters
/-! ### is_int, is_from, need_from -/
def preInt : List PyData → PyData → Prop := fun ds d => ∃ i, ds = [.int i] ∧ d = .bool true
theorem scIsInt : FnScope ["value"] ["value"] (defScope sIsInt) := ⟨rfl, rfl, rfl, by decide +kernel, rfl, by decide +kernel, by decide +kernel⟩
theorem c_is_int (D : Dfn K mg "is_int" sIsInt ["value"]) (Y : Nms mg) : Cal P w K mg base 1 "is_int" ["value"] (SpF preInt) := by
  refine cal_mk D scIsInt (fun ds d h => by obtain ⟨i, rfl, _⟩ := h; rfl) fun f cdv A outer s H vs ds d Q E hr hv hp q => ?_
  obtain ⟨i, rfl, rfl⟩ := hp
  cases hv with
  | cons h0 hv =>
    cases hv
    cases h0
    refine ⟨_, pss_one (ps_ret (pe_and (pe_callB call_isi (by rfl) Y.isinstance (by decide +kernel) (pa_cons (pv 0) (pa_cons (pe_bltn (v := .ty "int") (by rfl) Y.int (by decide +kernel) rfl) pa_nil)))
      (pe_one (pe_not (pe_callB call_isi (by rfl) Y.isinstance (by decide +kernel) (pa_cons (pv 0) (pa_cons (pe_bltn (v := .ty "bool") (by rfl) Y.bool (by decide +kernel) rfl) pa_nil))))))), ?_⟩
    refine s_ret (v := .bl true) (ev_andV (a := true) (b := true) (ev_isi (ev_var rfl) ev_c (.ty _) (fun _ _ => .base (.int _)) (kit_ty (by decide +kernel))) fun _ => ev_notV (a := false) (ev_isi (ev_var rfl) ev_c (.ty _) (fun _ _ => .base (.int _)) (kit_ty (by decide +kernel)))) fun H1 e1 => q _ H1 e1 (.bl true)
def preFrom : List PyData → PyData → Prop := fun ds d => ∃ v a b, ds = [.int v, .int a, .int b] ∧ a ≤ v ∧ v ≤ b ∧ d = .bool true
theorem scIsFrom : FnScope ["value", "least", "most"] ["value", "least", "most"] (defScope sIsFrom) := ⟨rfl, rfl, rfl, by decide +kernel, rfl, by decide +kernel, by decide +kernel⟩
theorem c_is_from (D : Dfn K mg "is_from" sIsFrom ["value", "least", "most"]) (C : Cal P w K mg base 1 "is_int" ["value"] (SpF preInt)) : Cal P w K mg base 2 "is_from" ["value", "least", "most"] (SpF preFrom) := by
  refine cal_mk D scIsFrom (fun ds d h => by obtain ⟨v, a, b, rfl, _⟩ := h; rfl) fun f cdv A outer s H vs ds d Q E hr hv hp q => ?_
  obtain ⟨v, a, b, rfl, h1, h2, rfl⟩ := hp
  cases hv with
  | cons v0 hv =>
    cases hv with
    | cons v1 hv =>
      cases hv with
      | cons v2 hv =>
        cases hv
        cases v0
        cases v1
        cases v2
        refine ⟨_, pss_one (ps_ret (pe_and (pe_cal C hr (by rfl) (pa_cons (pv 0) pa_nil)) (pe_one (pe_chain op_le op_le (pv 1) (pv 0) (pv 2))))), ?_⟩
        exact s_ret (v := .bl true) (ev_andV (a := true) (b := true) (ev_bl (ed_call (ea_Dc (ed_int (ev_var rfl)) ea_D) ⟨v, rfl, rfl⟩)) fun _ => ev_chainLe (ev_var rfl) (ev_var rfl) (ev_var rfl) h1 h2) fun H1 e1 => q _ H1 e1 (.bl true)
def preNeedFrom : List PyData → PyData → Prop := fun ds d => ∃ v a b, ds = [.int v, .int a, .int b] ∧ a ≤ v ∧ v ≤ b ∧ d = .none
theorem scNeedFrom : FnScope ["value", "least", "most"] ["value", "least", "most"] (defScope sNeedFrom) := ⟨rfl, rfl, rfl, by decide +kernel, rfl, by decide +kernel, by decide +kernel⟩
theorem c_need_from (D : Dfn K mg "need_from" sNeedFrom ["value", "least", "most"]) (C : Cal P w K mg base 2 "is_from" ["value", "least", "most"] (SpF preFrom)) : Cal P w K mg base 3 "need_from" ["value", "least", "most"] (SpF preNeedFrom) := by
  refine cal_mk D scNeedFrom (fun ds d h => by obtain ⟨v, a, b, rfl, _⟩ := h; rfl) fun f cdv A outer s H vs ds d Q E hr hv hp q => ?_
  obtain ⟨v, a, b, rfl, h1, h2, rfl⟩ := hp
  cases hv with
  | cons v0 hv =>
    cases hv with
    | cons v1 hv =>
      cases hv with
      | cons v2 hv =>
        cases hv
        cases v0
        cases v1
        cases v2
        refine ⟨_, pss_one (ps_if (pt_not (pt_val (pe_cal C hr (by rfl) (pa_cons (pv 0) (pa_cons (pv 1) (pa_cons (pv 2) pa_nil)))))) (pss_one ps_never) pss_nil), ?_⟩
        refine s_if (b := false) (et_not (a := true) (et_B (ev_bl (ed_call (ea_Dc (ed_int (ev_var rfl)) (ea_Dc (ed_int (ev_var rfl)) (ea_Dc (ed_int (ev_var rfl)) ea_D))) ⟨v, a, b, rfl, h1, h2, rfl⟩)))) (fun z => absurd z (by decide)) fun _ H1 e1 => q _ H1 e1 .non
/-! ### need_word -/
theorem s_forEn {σ : L2.St} {H : Hp} {D : Ends} {tu : TS} {ta : TA} {x : List Nat} {i1 i2 : Nat} (h : EvA ta σ H [.str (wd x)]) (Pv : Nat → L2.St → Hp → Prop) (h0 : ∀ H1, Ex H H1 → Pv 0 σ H1)
    (hs : ∀ i c σ' H', x[i]? = some c → Pv i σ' H' → ∀ H2, Ex H' H2 → tu { D with nx := Pv (i + 1), ct := Pv (i + 1), bk := D.nx } ((σ'.set i1 (some (vI i))).set i2 (some (.str (wd [c])))) H2) (hd : ∀ σ' H', Pv x.length σ' H' → D.nx σ' H') :
    tFor (iEnS ta) (gTup K 2 (gCons (gName i1) (gCons (gName i2) gNil))) tu D σ H := h H (Ex.refl H) _ fun H1 e1 => ⟨wd x, rfl, for_it walk_ites Pv (h0 H1 e1) (fun _ _ _ _ _ => trivial) (fun i v σ' H2 H3 hi hp y => by
    obtain ⟨T, c, hc, rfl, hT, rfl⟩ := y
    have hc : x[i]? = some c := by
      rw [← hc]
      simp [wd]
    exact g_pair rfl upd_same (hs i c σ' H2 hc hp _ (Ex.new hT))) (fun σ' H' hp => hd σ' H' (by
      have e : (wd x).cps.size = x.length := by simp [wd]
      rw [e] at hp
      exact hp))⟩
def preNeedWord : List PyData → PyData → Prop := fun ds d => ∃ x, ds = [.str (wd x)] ∧ Wd x ∧ d = .none
theorem scNeedWord : FnScope ["value", "place", "sign"] ["value"] (defScope sNeedWord) := ⟨rfl, rfl, rfl, by decide +kernel, rfl, by decide +kernel, by decide +kernel⟩
theorem c_need_word (D : Dfn K mg "need_word" sNeedWord ["value"]) (Y : Nms mg) : Cal P w K mg base 1 "need_word" ["value"] (SpF preNeedWord) := by
  refine cal_mk D scNeedWord (fun ds d h => by obtain ⟨x, rfl, _⟩ := h; rfl) fun f cdv A outer s H vs ds d Q E hr hv hp q => ?_
  obtain ⟨x, rfl, hx, rfl⟩ := hp
  obtain ⟨tl, hl⟩ := Y.lt
  obtain ⟨tm, hm⟩ := Y.mostWord
  cases hv with
  | cons v0 hv =>
    cases hv
    cases v0
    refine ⟨_, pss_cons (ps_if (PW.pt (pw_or (pt_not (pt_val (pe_callB call_isi (by rfl) Y.isinstance (by decide +kernel) (pa_cons (pv 0) (pa_cons (pe_bltn (v := .ty "str") (by rfl) Y.str (by decide +kernel) rfl) pa_nil)))))
        (pw_or1 (pt_cmpR op_gt (pe_callB call_len (by rfl) Y.len PySem.boot_len (pa_cons (pv 0) pa_nil)) (pe_gl (v := .int 2000) (by rfl) hm ⟨_, rfl⟩) (nomark _))))) (pss_one ps_never) pss_nil)
      (pss_one (ps_for PassesOwn.never rfl (pi_enS (by rfl) Y.enumerate (pa_cons (pv 0) pa_nil)) (pg_tup rfl (pgs_cons (pg_name (i := 1) scNeedWord.nd rfl (.inl rfl)) (pgs_cons (pg_name (i := 2) scNeedWord.nd rfl (.inl rfl)) pgs_nil)))
        (pss_one (ps_if (pt_cmpR op_notIn_sign (pv 2) (pe_gl (v := .str (wd [97, 98, 99, 100])) (by rfl) hl ⟨_, rfl⟩) (by rfl)) (pss_one ps_never) pss_nil)))), ?_⟩
    refine q_when (b := false) (et_or (a := false) (b := false) (et_not (a := true) (et_B (ev_isi (ev_var rfl) ev_c (.ty _) (fun _ _ => .base (.str _)) (kit_ty (by decide +kernel))))) fun _ => et_test (ev_is (ev_I2 (ev_lenW (ev_var rfl) (by have := hx.2; omega)) ev_c) (by
      show V.bl (decide ((2000 : Int) < ((x.length : Nat) : Int))) = .bl false
      rw [decide_eq_false (by have := hx.2; omega)]))) (fun z => absurd z (by decide)) fun _ H1 e1 => ?_
    refine s_forEn (x := x) (ea_cons (ev_var rfl) ea_nil) (fun i σ' H' => Ex H H' ∧ σ'[0]? = some (some (.str (wd x))) ∧ σ'.length = 3) (fun H2 e2 => ⟨e1.trans e2, rfl, rfl⟩) (fun i c σ' H' hc hp H2 e2 => ?_) (fun σ' H' hp => q _ H' hp.1 .non)
    obtain ⟨p1, p2, p3⟩ := hp
    refine s_when (b := false) (et_test (ev_notIn (c := c) (w := [97, 98, 99, 100]) (ev_var ?_) ev_c (hx.mem (List.mem_of_getElem? hc)))) (fun z => absurd z (by decide)) fun _ H3 e3 => ⟨(p1.trans e2).trans e3, ?_, ?_⟩
    · rw [List.getElem?_set_self (by simp [p3])]
    · rw [List.getElem?_set_ne (by decide), List.getElem?_set_ne (by decide)]
      exact p2
    · simp [p3]
end
end K31

set_option maxRecDepth 100000
set_option maxHeartbeats 8000000
namespace K31
open PySem PySem.Spec PyProof.Rows L2 Evl StX
section
variable {P : Program} {w : World} {K : PySem.W.Frag} {mg : Str → Option Value} {base : Heap}
/-! ### runs_of -/
def preRuns : List PyData → PyData → Prop := fun ds d => ∃ x, ds = [.str (wd x)] ∧ Wd x ∧ d = .list ((ends x).map dR)
theorem scRuns : FnScope ["word", "known", "found", "letter"] ["word"] (defScope sRuns) := ⟨rfl, rfl, rfl, by decide +kernel, rfl, by decide +kernel, by decide +kernel⟩
/-- what the loop of runs_of holds behind i letters -/
structure RunsAt (x : List Nat) (H : Hp) (p1 p2 : Addr) (i : Nat) (σ : L2.St) (H' : Hp) : Prop where
  ex : Ex H H'
  n1 : H p1 = none
  n2 : H p2 = none
  ne : p1 ≠ p2
  s : ∃ y, σ = [some (.str (wd x)), some (.ref p1), some (.ref p2), y]
  d : ∃ kvs, H' p1 = some (.dK kvs) ∧ KD kvs (fun c => (x.take i).count c) ∧ kvs.length ≤ i
  f : ∃ xs fl, H' p2 = some (.lst xs) ∧ DsAll H' xs (fl.map dR) ∧ RunInv x i fl
theorem last_of {α : Type} {l : List α} (h : l ≠ []) : ∃ F a, l = F ++ [a] := ⟨l.dropLast, l.getLast h, (List.dropLast_concat_getLast h).symm⟩
theorem atI_last' {α : Type} (F : List α) (a : α) : atI (F ++ [a]) (-1) = some a := by
  unfold atI ixN
  rw [if_neg (by decide), if_pos (by simp only [List.length_append, List.length_singleton]; omega)]
  show (F ++ [a])[(-1 + (((F ++ [a]).length : Nat) : Int)).toNat]? = some a
  have e : (-1 + (((F ++ [a]).length : Nat) : Int)).toNat = F.length := by
    simp only [List.length_append, List.length_singleton]
    omega
  rw [e]
  simp
theorem ixN_last {n : Nat} : ixN (n + 1) (-1) = some n := by
  unfold ixN
  rw [if_neg (by decide), if_pos (by omega)]
  congr 1
  omega
theorem set_snoc {α : Type} (F : List α) (a b : α) : (F ++ [a]).set F.length b = F ++ [b] := by
  rw [List.set_append_right _ _ (Nat.le_refl _)]
  simp
theorem c_runs_of (D : Dfn K mg "runs_of" sRuns ["word"]) : Cal P w K mg base 1 "runs_of" ["word"] (SpF preRuns) := by
  refine cal_mk D scRuns (fun ds d h => by obtain ⟨x, rfl, _⟩ := h; rfl) fun f cdv A outer s H vs ds d Q E hr hv hp q => ?_
  obtain ⟨x, rfl, hx, rfl⟩ := hp
  have hu := hu_of hr
  cases hv with
  | cons v0 hv =>
    cases hv
    cases v0
    refine ⟨_, pss_cons (ps_par (i := 1) (j := 2) rfl scRuns.nd rfl rfl (by decide) rfl rfl (pa_cons pe_dnewK (pa_cons (pe_lst pa_nil) pa_nil)) (by rfl))
      (pss_cons (ps_for PassesOwn.never rfl (pi_str (pv 0)) (pg_name (i := 3) scRuns.nd rfl (.inl rfl))
        (pss_cons (ps_dput hu (pv 1) (pv 3) (pe_op op_add (pe_dget2 hu (pv 1) (pv 3) pe_int ⟨rfl, rfl, rfl, rfl⟩) pe_int) rfl)
        (pss_one (ps_if (PW.pt (pw_and (pt_cmpR (op_neD hr.units) (pv 2) (pe_lst pa_nil) (nomark _)) (pw_and1 (pt_cmpR op_eq (pe_ix ix_tup (pe_ix ix_list (pv 2) (pe_un un_neg pe_int) (fun _ _ => rfl)) pe_int (fun _ _ => rfl)) (pv 3) (nomark _)))))
          (pss_one (ps_asg (pe_tup (pa_cons (pv 3) (pa_cons (pe_dget hu (pv 1) (pv 3) (fun _ _ => rfl)) pa_nil))) (pg_sub (pv 2) (pe_un un_neg pe_int) set_list)))
          (pss_one (ps_expr (pe_bm PySem.F.plainAttrs_list PySem.F.slot_list_append PySem.F.type_list_append mt_append (pv 2) (pa_cons (pe_tup (pa_cons (pv 3) (pa_cons (pe_dget hu (pv 1) (pv 3) (fun _ _ => rfl)) pa_nil))) pa_nil))))))))
      (pss_one (ps_ret (pv 2)))), ?_⟩
    -- known, found = {}, []
    refine fun p1 np1 => ⟨Nat.zero_le _, fun p2 np2 => ⟨_, _, rfl, ?_⟩⟩
    have ne12 : p1 ≠ p2 := fun e => by
      rw [← e, upd_same] at np2
      cases np2
    have n2 : H p2 = none := fresh_back (Ex.new np1) np2
    refine q_forS (w := x) (ev_var rfl) (RunsAt x H p1 p2) (fun H1 e1 => ?_) (fun i c σ' H' hc hp => ?_) (fun σ' H' hp => ?_)
    · have x0 : Ex H (upd (upd H p1 (.dK [])) p2 (.lst [])) := (Ex.new np1).trans (Ex.new np2)
      refine ⟨x0.trans e1, np1, n2, ne12, ⟨none, rfl⟩, ⟨[], e1 _ _ ?_, fun c => by rw [List.take_zero]; rfl, Nat.zero_le _⟩, ⟨[], [], e1 _ _ upd_same, .nil, .inl ⟨rfl, rfl⟩⟩⟩
      rw [upd_ne ne12, upd_same]
    · -- one letter
      obtain ⟨ex, n1, n2, ne12, ⟨y, rfl⟩, ⟨kvs, hk, kd, kl⟩, ⟨xs, fl, hxs, hds, inv⟩⟩ := hp
      have hxl := hx.2
      have il : i < x.length := (List.getElem?_eq_some_iff.mp hc).1
      have cl := hx.1 c (List.mem_of_getElem? hc)
      have kput : valV (putK kvs (Sum.inr (wd [c])) (vI ((x.take i).count c + 1))) (Sum.inr (wd [c])) = some (vI ((x.take i).count c + 1)) := by rw [valV_put, if_pos rfl]
      refine q_dput (p := p1) (kvs := kvs) (z := wd [c]) (v := vI ((x.take i).count c + 1)) hk (by omega) (ev_I2 (ev_get hk kd (ev_var rfl) (ev_var rfl)) ev_c) (ev_var rfl) (ev_var rfl) fun H1 e1 => ?_
      generalize hH2 : upd H1 p1 (.dK (putK kvs (Sum.inr (wd [c])) (vI ((x.take i).count c + 1)))) = H2
      have h1 : H1 p1 = some (.dK kvs) := e1 _ _ hk
      have ex2 : Ex H H2 := by rw [← hH2]; exact Ex.mut (ex.trans e1) n1
      have k2 : H2 p1 = some (.dK (putK kvs (Sum.inr (wd [c])) (vI ((x.take i).count c + 1)))) := by rw [← hH2]; exact upd_same
      have x2 : H2 p2 = some (.lst xs) := by rw [← hH2, upd_ne ne12.symm]; exact e1 _ _ hxs
      have d2 : DsAll H2 xs (fl.map dR) := by rw [← hH2]; exact (hds.mono e1).setD h1 lf_R
      have cnt : (x.take (i + 1)).count c = (x.take i).count c + 1 := by rw [take_succ hc, count_snoc, if_pos rfl]
      have kd2 : KD (putK kvs (Sum.inr (wd [c])) (vI ((x.take i).count c + 1))) fun z => (x.take (i + 1)).count z := fun z => by
        rw [kd.put c _ z]
        show vI (if z = c then _ else _) = vI ((x.take (i + 1)).count z)
        rw [take_succ hc, count_snoc]
        by_cases e : z = c
        · rw [if_pos e, if_pos e, e]
        · rw [if_neg e, if_neg e]; rfl
      have kl2 : (putK kvs (Sum.inr (wd [c])) (vI ((x.take i).count c + 1))).length ≤ i + 1 := Nat.le_trans (length_putK _ _ _) (by omega)
      have lets : ∀ q ∈ fl, 97 ≤ q.1 ∧ q.1 ≤ 100 := fun q hq => hx.1 _ (run_letter inv q hq)
      clear hH2 hds hxs kd hk h1
      have tup : ∀ H3, Ex H2 H3 → EvD (tTup (tCons (tVar 3) (tCons (tDGet (tVar 1) (tVar 3)) tNil))) [some (.str (wd x)), some (.ref p1), some (.ref p2), some (.str (wd [c]))] H3 (dR (c, (x.take (i + 1)).count c)) := fun H3 e3 => by
        rw [cnt]
        exact ed_tup (ea_Dc (ed_str (ev_var rfl)) (ea_Dc (ed_int (ev_getI (e3 _ _ k2) kput (ev_var rfl) (ev_var rfl))) ea_D)) (by show 2 ≤ 100000; decide)
      have lfq : LF (dR (c, (x.take (i + 1)).count c)) := lf_R (L := [(c, (x.take (i + 1)).count c)]) _ List.mem_cons_self
      -- found != [] and found[-1][0] == letter
      by_cases hfl : fl = []
      · subst hfl
        refine s_if (b := false) (et_and (a := false) (b := true) (et_test (et_neD (ed_var rfl (.lst x2 d2)) (ed_m (em_lst ea_D (by decide))) (shaped_runs _ lets) shaped_nil (by rw [eqv_nil]; rfl))) (fun z => absurd z (by decide))) (fun z => absurd z (by decide)) fun _ H3 e3 => ?_
        refine s_appD (e3 _ _ x2) (d2.mono e3) lf_R (ev_var rfl) (tup H3 e3) lfq (by decide) fun v H4 e4 hl4 hds4 => ?_
        have x24 := e3.trans e4
        refine ⟨Ex.mut (ex2.trans x24) n2, n1, n2, ne12, ⟨_, rfl⟩, ⟨_, by rw [upd_ne ne12]; exact x24 _ _ k2, kd2, kl2⟩, ⟨_, _, upd_same, ?_, run_new inv hc (.inl rfl)⟩⟩
        rw [List.map_append]
        exact hds4
      · obtain ⟨F, ⟨b, k⟩, rfl⟩ := last_of hfl
        have ev1 : EvD (tOp (rIxL K) (tVar 2) (tUn (rU fun i => .int (-i)) (tC (.int 1)))) [some (.str (wd x)), some (.ref p1), some (.ref p2), some (.str (wd [c]))] H2 (dR (b, k)) := ed_ixL (ds := (F ++ [(b, k)]).map dR) (ed_var rfl (.lst x2 d2)) (ev_neg ev_c) (by
          rw [List.map_append]
          exact atI_last' _ _)
        have ev2 : Ev (tOp (rIxT K) (tOp (rIxL K) (tVar 2) (tUn (rU fun i => .int (-i)) (tC (.int 1)))) (tC (.int 0))) [some (.str (wd x)), some (.ref p1), some (.ref p2), some (.str (wd [c]))] H2 (.str (wd [b])) := ev_str (ed_ixT ev1 ev_c rfl)
        refine s_if (b := true && decide ([b] = [c])) (et_and (a := true) (et_test (et_neD (ed_var rfl (.lst x2 d2)) (ed_m (em_lst ea_D (by decide))) (shaped_runs _ lets) shaped_nil (by rw [eqv_nil]; simp))) (fun _ => et_test (ev_eqS ev2 (ev_var rfl)))) (fun hb H3 e3 => ?_) (fun hb H3 e3 => ?_)
        · -- found[-1] = (letter, known[letter])
          have ebc : b = c := by simpa using hb
          subst ebc
          refine tup H3 e3 H3 (Ex.refl H3) _ fun v H4 e4 hv => ?_
          refine ⟨.ref p2, rfl, (1 : Int), rfl, ?_⟩
          have e24 := e3.trans e4
          refine ⟨p2, xs, -1, F.length, rfl, rfl, e24 _ _ x2, ?_, ?_⟩
          · have : xs.length = F.length + 1 := by
              rw [d2.length]
              simp
            rw [this]
            exact ixN_last
          · refine ⟨Ex.mut (ex2.trans e24) n2, n1, n2, ne12, ⟨_, rfl⟩, ⟨_, by rw [upd_ne ne12]; exact e24 _ _ k2, kd2, kl2⟩, ⟨_, _, upd_same, ?_, run_same inv hc⟩⟩
            have := DsAll.set (hv.setL (o := .lst (xs.set F.length v)) (e24 _ _ x2) lfq) F.length ((d2.mono e24).setL (o := .lst (xs.set F.length v)) (e24 _ _ x2) lf_R)
            rw [List.map_append] at this ⊢
            have e5 := set_snoc (F.map dR) (dR (b, k)) (dR (b, (x.take (i + 1)).count b))
            rw [List.length_map] at e5
            rw [show List.map dR [(b, k)] = [dR (b, k)] from rfl, e5] at this
            exact this
        · have hbc : b ≠ c := fun e => by
            subst e
            simp at hb
          refine s_appD (e3 _ _ x2) (d2.mono e3) lf_R (ev_var rfl) (tup H3 e3) lfq (by
            have := run_len inv
            rw [List.length_map]
            omega) fun v H4 e4 hl4 hds4 => ?_
          have x24 := e3.trans e4
          refine ⟨Ex.mut (ex2.trans x24) n2, n1, n2, ne12, ⟨_, rfl⟩, ⟨_, by rw [upd_ne ne12]; exact x24 _ _ k2, kd2, kl2⟩, ⟨_, _, upd_same, ?_, run_new inv hc (.inr ⟨F, b, k, rfl, hbc⟩)⟩⟩
          rw [List.map_append]
          exact hds4
    · obtain ⟨ex, n1, n2, ne12, ⟨y, rfl⟩, _, ⟨xs, fl, hxs, hds, inv⟩⟩ := hp
      have e := run_end inv
      subst e
      exact s_retD (ed_var rfl (.lst hxs hds)) fun v H1 e1 hv => q v H1 (ex.trans e1) hv
end
end K31

set_option maxRecDepth 100000
set_option maxHeartbeats 8000000
namespace K31
open PySem PySem.Spec PyProof.Rows L2 Evl StX
section
variable {K : PySem.W.Frag} {σ : L2.St} {H H' : Hp} {ta tb tc te tl td ty tv : TE} {t tt : TT} {v x : V} {d : PyData} {ds : List PyData} {D : Ends} {tu tz : TS} {g : TG}
/-- a comprehension over a list of things told by emb -/
theorem em_lcA {α : Type} (emb : α → PyData) (L : List α) {vs : List Nat} (f : α → Bool) (v : α → PyData) (h : EvD tl σ H (.list (L.map emb))) (hz : L.length ≤ 40000) (hlf : ∀ a ∈ L, f a = true → LF (v a))
    (hs : ∀ a ∈ L, ∀ x H2, Ex H H2 → Ds H2 x (emb a) → ∀ R : L2.St → Hp → Prop, (∀ σ2, wipe σ2 vs = wipe σ vs → EvT tt σ2 H2 (f a) → (f a = true → EvD te σ2 H2 (v a)) → R σ2 H2) → g x (wipe σ vs) H2 R) :
    EvM (tLc (iList K tl) g tt te vs) σ H ((L.filter f).map v) := fun H0 a Q q => h H0 a _ fun v0 H1 a1 c => by
  obtain ⟨p, xs, rfl, hp, hx⟩ := c.inj_list
  refine ⟨p, rfl, ⟨xs, SqL.of hp⟩, fun Dl hD => ?_⟩
  refine lcG (walk_list (xs := xs)) L (by have := hx.length; rw [List.length_map] at this; exact this) f v hz hlf H1 (fun H' e => SqL.of (e _ _ hp)) (fun i d x H2 H3 hi e2 y => ?_) Dl hD _ (fun H' ys e hD' hy => q Dl ys H' (fresh_back a1 hD) (a1.trans e) hD' hy)
  obtain ⟨y1, y2⟩ := y
  obtain ⟨d', hd1, hd2⟩ := (hx.mono e2).get y2
  rw [List.getElem?_map, hi] at hd1
  have : emb d = d' := Option.some.inj hd1
  subst this
  exact ⟨y1, hs d (List.mem_of_getElem? hi) x H2 ((a.trans a1).trans e2) hd2⟩
/-- over runs, letter and count -/
theorem em_lcP {L : List (Nat × Nat)} {i j : Nat} {vs : List Nat} (f : Nat × Nat → Bool) (v : Nat × Nat → PyData) (h : EvD tl σ H (.list (L.map dR))) (hz : L.length ≤ 40000) (hlf : ∀ a ∈ L, f a = true → LF (v a))
    (hw : ∀ a b, wipe (((wipe σ vs).set i (some a)).set j (some b)) vs = wipe σ vs)
    (hs : ∀ q ∈ L, ∀ H2, Ex H H2 → EvT tt (((wipe σ vs).set i (some (.str (wd [q.1])))).set j (some (vI q.2))) H2 (f q) ∧ (f q = true → EvD te (((wipe σ vs).set i (some (.str (wd [q.1])))).set j (some (vI q.2))) H2 (v q))) :
    EvM (tLc (iList K tl) (gTup K 2 (gCons (gName i) (gCons (gName j) gNil))) tt te vs) σ H ((L.filter f).map v) :=
  em_lcA dR L f v h hz hlf fun q hq x H2 e2 hx R k => by
    obtain ⟨a, y, z, rfl, ha, hy, hzz⟩ := hx.pair
    cases hy
    cases hzz
    obtain ⟨s1, s2⟩ := hs q hq H2 e2
    exact g_pair rfl ha (k _ (hw _ _) s1 s2)
theorem filter_yes {α : Type} (L : List α) : L.filter (fun _ => true) = L := List.filter_eq_self.mpr fun _ _ => rfl
theorem ev_index {M : List Nat} {k : Nat} (ha : EvD ta σ H (.list (M.map dI))) (hb : Ev tb σ H (vI k)) (hk : k ∈ M) : Ev (tBM K "list" (rIndex K) ta (tCons tb tNil)) σ H (vI (ix M k)) := fun H1 a Q q =>
  ha H1 a _ fun v H2 b2 c => by
    obtain ⟨p, xs, rfl, hp, hx⟩ := c.inj_list
    have e := dsAll_I hx
    subst e
    refine ⟨.inl ⟨rfl, _, SqL.of hp⟩, hb H2 (a.trans b2) _ fun H3 b3 => ⟨p, M.map vI, vI k, ix M k, vI k, rfl, rfl, SqL.of (b3 _ _ hp), rfl, ?_, ?_, by simp [eqV, vI], fun m z hm hz => ?_, q H3 (b2.trans b3)⟩⟩
    · rw [List.all_map]
      exact List.all_eq_true.mpr fun _ _ => rfl
    · rw [List.getElem?_map, ix_at hk]
      rfl
    · rw [List.getElem?_map] at hz
      cases hM : M[m]? with
      | none => rw [hM] at hz; cases hz
      | some z' =>
        rw [hM] at hz
        have e : vI z' = z := Option.some.inj hz
        subst e
        have : z' ≠ k := fun e => ix_first m hm (by rw [hM, e])
        show ((z' : Int) == (k : Int)) = false
        exact beq_eq_false_iff_ne.mpr (by omega)
/-- ''.join(list of texts) -/
abbrev rJoinT (K : PySem.W.Frag) : V → List V → Hp → VK → Prop := fun x xs H Q => ∃ a p, ∃ ys : List Str, x = .str a ∧ xs = [.ref p] ∧ (SqL K H p (ys.map V.str) ∨ SqT K H p (ys.map V.str)) ∧
    (ys.map (·.length)).sum + ys.length * a.length ≤ 16777216 ∧ Q (.str (Txt.join a ys)) H
def dW (w : List Nat) : PyData := .str (wd w)
theorem dsAll_W : ∀ {ps : List (List Nat)} {vs : List V}, DsAll H vs (ps.map dW) → vs = (ps.map wd).map V.str
  | [], _, .nil => rfl
  | p :: ps, _, .cons a b => by
    rw [a.inj_str, dsAll_W b]
    rfl
theorem lf_W {ps : List (List Nat)} : ∀ d ∈ ps.map dW, LF d := fun d h => by
  obtain ⟨n, _, rfl⟩ := List.mem_map.mp h
  exact .str _
theorem flat_len : ∀ ps : List (List Nat), ((ps.map wd).map (·.length)).sum = ps.flatten.length
  | [] => rfl
  | p :: ps => by
    rw [List.map_cons, List.map_cons, List.sum_cons, flat_len ps, wd_len, List.flatten_cons, List.length_append]
theorem ev_join {ps : List (List Nat)} (ha : Ev ta σ H (.str (wd []))) (hb : EvD tb σ H (.list (ps.map dW))) (hl : ps.flatten.length ≤ 1000000) : Ev (tM1 (rJoinT K) ta tb) σ H (.str (wd ps.flatten)) := fun H1 a Q q =>
  ha H1 a _ fun H2 b2 => ⟨⟨_, rfl⟩, hb H2 (a.trans b2) _ fun v H3 b3 c => by
    obtain ⟨p, xs, rfl, hp, hx⟩ := c.inj_list
    have e := dsAll_W hx
    subst e
    refine ⟨wd [], p, ps.map wd, rfl, rfl, .inl (SqL.of hp), ?_, ?_⟩
    · rw [flat_len]
      show ps.flatten.length + (ps.map wd).length * 0 ≤ 16777216
      omega
    · rw [join_wd]
      exact q H3 (b2.trans b3)⟩
theorem nil_wd : ("" : Str) = wd [] := rfl
/-- max of a new list of ints -/
theorem ev_max {ns : List Nat} {m : Nat} (ha : EvD ta σ H (.list (ns.map dI))) (hm : m ∈ ns) (hle : ∀ n ∈ ns, n ≤ m) : Ev (tCB (rMax K) (tCons ta tNil)) σ H (vI m) := fun H1 a Q q =>
  ha H1 a _ fun v H2 b2 c => by
    obtain ⟨p, xs, rfl, hp, hx⟩ := c.inj_list
    have e := dsAll_I hx
    subst e
    rw [vI_int] at hp
    refine ⟨p, ns.map Int.ofNat, rfl, SqL.of hp, ?_, fun z hz hzl => ?_⟩
    · rw [List.length_map]
      exact List.length_pos_of_mem hm
    · obtain ⟨n, hn, rfl⟩ := List.mem_map.mp hz
      have h1 := hle n hn
      have h2 := hzl (Int.ofNat m) (List.mem_map.mpr ⟨m, hm, rfl⟩)
      have : n = m := by
        have : (m : Int) ≤ (n : Int) := h2
        omega
      subst this
      exact q H2 b2
end
section
variable {P : Program} {w : World} {K : PySem.W.Frag} {mg : Str → Option Value} {base : Heap}
/-! ### marks_of -/
def preMarks : List PyData → PyData → Prop := fun ds d => ∃ x, ds = [.str (wd x)] ∧ Wd x ∧ d = .list ((marksL (ends x)).map dI)
theorem scMarks : FnScope ["word", "letter", "count"] ["word"] (defScope sMarks) := ⟨rfl, rfl, rfl, by decide +kernel, rfl, by decide +kernel, by decide +kernel⟩
theorem ends_len' (x : List Nat) : (ends x).length ≤ x.length := ends_len x []
theorem c_marks_of (D : Dfn K mg "marks_of" sMarks ["word"]) (Y : Nms mg) (C : Cal P w K mg base 1 "runs_of" ["word"] (SpF preRuns)) : Cal P w K mg base 2 "marks_of" ["word"] (SpF preMarks) := by
  refine cal_mk D scMarks (fun ds d h => by obtain ⟨x, rfl, _⟩ := h; rfl) fun f cdv A outer s H vs ds d Q E hr hv hp q => ?_
  obtain ⟨x, rfl, hx, rfl⟩ := hp
  cases hv with
  | cons v0 hv =>
    cases hv
    cases v0
    refine ⟨_, pss_one (ps_ret (pe_callB (cr_sortedSet rfl) (by rfl) Y.sorted (by decide +kernel) (pa_cons (pe_callTy (cr_setL rfl) (by rfl) Y.set (by decide +kernel) (pa_cons (pe_op op_cat (pe_lst (pa_cons pe_int pa_nil))
      (pe_lc (own := [("letter", 1), ("count", 2)]) (g := gTup K 2 (gCons (gName 1) (gCons (gName 2) gNil))) rfl scMarks.nd (pi_list (pe_cal C hr (by rfl) (pa_cons (pv 0) pa_nil))) (blkOk_by (N := ["word", "letter", "count"]) (sc := defScope sMarks) (by decide +kernel)) (fun _ _ _ _ _ => pg_tup rfl (pgs_cons (pg_name (i := 1) scMarks.nd rfl (.inl rfl) (.inr rfl)) (pgs_cons (pg_name (i := 2) scMarks.nd rfl (.inl rfl) (.inr rfl)) pgs_nil)))
        (fun _ _ _ _ _ => pts_nil) (fun _ _ _ _ _ => pv 2))) pa_nil)) pa_nil))), ?_⟩
    have el := ends_len' x
    have hxl := hx.2
    refine s_retD (ed_m (em_sortSet (ns := 0 :: (ends x).map (·.2)) (ms := marksL (ends x)) ?_ ?_ (marks_lt _) fun k => ?_)) q
    · have e : (0 :: (ends x).map (·.2)).map dI = [dI 0] ++ ((ends x).filter (fun _ => true)).map fun q => dI q.2 := by
        rw [filter_yes, List.map_cons, List.map_map]
        rfl
      rw [e]
      refine em_cat (ed_m (em_lst (ea_Dc (ed_int ev_c) ea_D) (by show 1 ≤ 100000; decide))) (ed_m (em_lcP (fun _ => true) _ (ed_call (ea_Dc (ed_str (ev_var rfl)) ea_D) ⟨x, rfl, hx, rfl⟩) (by omega) (fun _ _ _ => .int _) (fun _ _ => rfl) fun q hq H2 e2 => ⟨et_yes, fun _ => ed_int (ev_var rfl)⟩)) ?_
      rw [List.length_map, filter_yes]
      simp only [List.length_singleton]
      omega
    · simp only [List.length_cons, List.length_map]
      omega
    · rw [marks_mem, List.mem_cons]
/-! ### word_of -/
def preWordOf : List PyData → PyData → Prop := fun ds d => ∃ L, ds = [.list (L.map dR)] ∧ L.length ≤ 100 ∧ (∀ q ∈ L, q.2 ≤ 1000) ∧ d = .str (wd (made L))
theorem scWordOf : FnScope ["runs", "known", "found", "letter", "count"] ["runs"] (defScope sWordOf) := ⟨rfl, rfl, rfl, by decide +kernel, rfl, by decide +kernel, by decide +kernel⟩
structure MadeAt (v0 : V) (L : List (Nat × Nat)) (H : Hp) (p1 p2 : Addr) (i : Nat) (σ : L2.St) (H' : Hp) : Prop where
  ex : Ex H H'
  n1 : H p1 = none
  n2 : H p2 = none
  ne : p1 ≠ p2
  s : ∃ y z, σ = [some v0, some (.ref p1), some (.ref p2), y, z]
  d : ∃ kvs, H' p1 = some (.dK kvs) ∧ KD kvs (lastK (fun _ => 0) (L.take i)) ∧ kvs.length ≤ i
  f : ∃ (xs : List V) (ps : List (List Nat)), H' p2 = some (.lst xs) ∧ DsAll H' xs (ps.map dW) ∧ ps.flatten = made (L.take i) ∧ ps.length ≤ i
theorem lastK_bound {L : List (Nat × Nat)} {B : Nat} : ∀ (κ : Nat → Nat), (∀ x, κ x ≤ B) → (∀ q ∈ L, q.2 ≤ B) → ∀ x, lastK κ L x ≤ B := by
  intro κ h hB x
  rcases lastK_mem L κ x with e | e
  · rw [e]; exact h x
  · exact hB _ e
theorem c_word_of (D : Dfn K mg "word_of" sWordOf ["runs"]) : Cal P w K mg base 1 "word_of" ["runs"] (SpF preWordOf) := by
  refine cal_mk D scWordOf (fun ds d h => by obtain ⟨x, rfl, _⟩ := h; rfl) fun f cdv A outer s H vs ds d Q E hr hv hp q => ?_
  obtain ⟨L, rfl, hL, hB, rfl⟩ := hp
  have hu := hu_of hr
  cases hv with
  | cons v0 hv =>
    cases hv
    obtain ⟨a, xa, rfl, ha, hxa⟩ := v0.inj_list
    refine ⟨_, pss_cons (ps_par (i := 1) (j := 2) rfl scWordOf.nd rfl rfl (by decide) rfl rfl (pa_cons pe_dnewK (pa_cons (pe_lst pa_nil) pa_nil)) (by rfl))
      (pss_cons (ps_for PassesOwn.never rfl (pi_list (pv 0)) (pg_tup rfl (pgs_cons (pg_name (i := 3) scWordOf.nd rfl (.inl rfl)) (pgs_cons (pg_name (i := 4) scWordOf.nd rfl (.inl rfl)) pgs_nil)))
        (pss_cons (ps_expr (pe_bm PySem.F.plainAttrs_list PySem.F.slot_list_append PySem.F.type_list_append mt_append (pv 2) (pa_cons (pe_op op_mulS (pv 3) (pe_op op_sub (pv 4) (pe_dget2 hu (pv 1) (pv 3) pe_int ⟨rfl, rfl, rfl, rfl⟩))) pa_nil)))
        (pss_one (ps_dput hu (pv 1) (pv 3) (pv 4) rfl))))
      (pss_one (ps_ret (pe_join pe_str (pv 2))))), ?_⟩
    refine fun p1 np1 => ⟨Nat.zero_le _, fun p2 np2 => ⟨_, _, rfl, ?_⟩⟩
    have ne12 : p1 ≠ p2 := fun e => by
      rw [← e, upd_same] at np2
      cases np2
    have n2 : H p2 = none := fresh_back (Ex.new np1) np2
    have x0 : Ex H (upd (upd H p1 (.dK [])) p2 (.lst [])) := (Ex.new np1).trans (Ex.new np2)
    have ll : L.length = xa.length := by
      have := hxa.length
      rw [List.length_map] at this
      exact this.symm
    refine q_forA (a := a) (xs := xa) (ev_var rfl) (x0 _ _ ha) (MadeAt (.ref a) L H p1 p2) (fun H1 e1 => ?_) (fun i σ' H' hp => hp.ex _ _ ha) (fun i v σ' H' hi hp => ?_) (fun σ' H' hp => ?_)
    · refine ⟨x0.trans e1, np1, n2, ne12, ⟨none, none, rfl⟩, ⟨[], e1 _ _ ?_, fun c => rfl, Nat.zero_le _⟩, ⟨[], [], e1 _ _ upd_same, .nil, rfl, Nat.zero_le _⟩⟩
      rw [upd_ne ne12, upd_same]
    · obtain ⟨ex, n1, n2, ne12, ⟨y, z, rfl⟩, ⟨kvs, hk, kd, kl⟩, ⟨xs, ps, hxs, hds, hps, pl⟩⟩ := hp
      obtain ⟨d, hd1, hd2⟩ := (hxa.mono ex).get hi
      have il : i < L.length := by
        have := (List.getElem?_eq_some_iff.mp hi).1
        omega
      obtain ⟨q0, hq0⟩ : ∃ q0, L[i]? = some q0 := ⟨L[i], List.getElem?_eq_getElem il⟩
      rw [List.getElem?_map, hq0] at hd1
      have : dR q0 = d := Option.some.inj hd1
      subst this
      obtain ⟨c, k⟩ := q0
      obtain ⟨b, y', z', rfl, hb, hy, hz⟩ := hd2.pair
      cases hy
      cases hz
      have hkB : k ≤ 1000 := hB (c, k) (List.mem_of_getElem? hq0)
      have lB := lastK_bound (L := L.take i) (B := 1000) (fun _ => 0) (fun _ => Nat.zero_le _) (fun q hq => hB q (List.mem_of_mem_take hq)) c
      have tk : L.take (i + 1) = L.take i ++ [(c, k)] := by
        rw [List.take_add_one, hq0]
        rfl
      refine g_pair rfl hb ?_
      have hN : -1000000 ≤ ((k : Nat) : Int) - ((lastK (fun _ => 0) (L.take i) c : Nat) : Int) ∧ ((k : Nat) : Int) - ((lastK (fun _ => 0) (L.take i) c : Nat) : Int) ≤ 1000000 := by omega
      refine q_appD (d := dW (List.replicate (k - lastK (fun _ => 0) (L.take i) c) c)) hxs hds lf_W (ev_var rfl) (ed_str (ev_is (ev_mulS (c := c) (ev_var rfl) (ev_I2 (ev_var rfl) (ev_get hk kd (ev_var rfl) (ev_var rfl))) hN) ?_)) (.str _) (by rw [List.length_map]; omega) fun v H1 e1 hl1 hd1 => ?_
      · have e : ((k : Int) - ((lastK (fun _ => 0) (L.take i) c : Nat) : Int)).toNat = k - lastK (fun _ => 0) (L.take i) c := by omega
        show V.str (wd (List.replicate ((k : Int) - ((lastK (fun _ => 0) (L.take i) c : Nat) : Int)).toNat c)) = _
        rw [e]
      · have k1 : (upd H1 p2 (.lst (xs ++ [v]))) p1 = some (.dK kvs) := by
          rw [upd_ne ne12]
          exact e1 _ _ hk
        have ex1 : Ex H (upd H1 p2 (.lst (xs ++ [v]))) := Ex.mut (ex.trans e1) n2
        refine s_dput (p := p1) (kvs := kvs) (z := wd [c]) (v := vI k) k1 (by omega) (ev_var rfl) (ev_var rfl) (ev_var rfl) fun H3 e3 => ?_
        refine ⟨Ex.mut (ex1.trans e3) n1, n1, n2, ne12, ⟨_, _, rfl⟩, ⟨_, upd_same, fun z => ?_, Nat.le_trans (length_putK _ _ _) (by omega)⟩, ⟨xs ++ [v], ps ++ [List.replicate (k - lastK (fun _ => 0) (L.take i) c) c], ?_, ?_, ?_, by rw [List.length_append]; simp only [List.length_singleton]; omega⟩⟩
        · rw [kd.put c k z, tk, lastK_snoc]
          rfl
        · rw [upd_ne ne12.symm]
          exact e3 _ _ upd_same
        · rw [List.map_append]
          exact (hd1.mono e3).setD (e3 _ _ k1) fun d hd => lf_W (ps := ps ++ [List.replicate (k - lastK (fun _ => 0) (L.take i) c) c]) d (by rw [List.map_append]; exact hd)
        · rw [List.flatten_append, hps, tk]
          show made (L.take i) ++ ([List.replicate _ c] : List (List Nat)).flatten = madeAux (fun _ => 0) (L.take i ++ [(c, k)])
          rw [made_snoc]
          simp [made]
    · obtain ⟨ex, n1, n2, ne12, ⟨y, z, rfl⟩, _, ⟨xs, ps, hxs, hds, hps, pl⟩⟩ := hp
      rw [← ll, List.take_length] at hps
      have bl : ps.flatten.length ≤ 1000000 := by
        rw [hps]
        have := made_len L (fun _ => 0) 1000 hB
        show (madeAux (fun _ => 0) L).length ≤ 1000000
        omega
      rw [← hps] at q
      exact s_retD (ed_str (ev_join (ev_is ev_c (congrArg V.str nil_wd)) (ed_var rfl (.lst hxs hds)) bl)) fun v H1 e1 hv => q v H1 (ex.trans e1) hv
end
end K31

set_option maxRecDepth 100000
set_option maxHeartbeats 8000000
namespace K31
open PySem PySem.Spec PyProof.Rows L2 Evl StX
section
variable {P : Program} {w : World} {K : PySem.W.Frag} {mg : Str → Option Value} {base : Heap}
theorem rank_small {x : List Nat} (hx : Wd x) : (ranks x).length ≤ 100 ∧ ∀ q ∈ ranks x, q.2 ≤ 1000 := by
  have h1 := hx.2
  have h2 := ends_len' x
  refine ⟨by unfold ranks; rw [List.length_map]; omega, fun q hq => ?_⟩
  obtain ⟨p, hp, rfl⟩ := List.mem_map.mp hq
  have h3 := ix_le (marks_lt (ends x)) (marks_mem.2 (.inr (List.mem_map.mpr ⟨p, hp, rfl⟩)))
  have h4 := ends_count x [] p hp
  simp only [List.length_nil] at h4
  show ix (marksL (ends x)) p.2 ≤ 1000
  omega
theorem core_wd {x : List Nat} (hx : Wd x) : Wd (core x) := ⟨core_letters hx.1, Nat.le_trans (core_len hx.1) hx.2⟩
/-! ### core_of -/
def preCore : List PyData → PyData → Prop := fun ds d => ∃ x, ds = [.str (wd x)] ∧ Wd x ∧ d = .str (wd (core x))
theorem scCore : FnScope ["word", "marks", "letter", "count"] ["word"] (defScope sCore) := ⟨rfl, rfl, rfl, by decide +kernel, rfl, by decide +kernel, by decide +kernel⟩
theorem c_core_of (D : Dfn K mg "core_of" sCore ["word"]) (Cm : Cal P w K mg base 2 "marks_of" ["word"] (SpF preMarks)) (Cr : Cal P w K mg base 1 "runs_of" ["word"] (SpF preRuns)) (Cw : Cal P w K mg base 1 "word_of" ["runs"] (SpF preWordOf)) :
    Cal P w K mg base 3 "core_of" ["word"] (SpF preCore) := by
  refine cal_mk D scCore (fun ds d h => by obtain ⟨x, rfl, _⟩ := h; rfl) fun f cdv A outer s H vs ds d Q E hr hv hp q => ?_
  obtain ⟨x, rfl, hx, rfl⟩ := hp
  have hr1 := hr.mono (j := 1) (by decide)
  cases hv with
  | cons v0 hv =>
    cases hv
    cases v0
    refine ⟨_, pss_cons (ps_set (i := 1) scCore.nd rfl (.inr rfl) (pe_cal Cm hr (by rfl) (pa_cons (pv 0) pa_nil)))
      (pss_one (ps_ret (pe_cal Cw hr1 (by rfl) (pa_cons (pe_lc (own := [("letter", 2), ("count", 3)]) (g := gTup K 2 (gCons (gName 2) (gCons (gName 3) gNil))) (te := tTup (tCons (tVar 2) (tCons (tBM K "list" (rIndex K) (tVar 1) (tCons (tVar 3) tNil)) tNil))) rfl scCore.nd (pi_list (pe_cal Cr hr1 (by rfl) (pa_cons (pv 0) pa_nil))) (blkOk_by (N := ["word", "marks", "letter", "count"]) (sc := defScope sCore) (by decide +kernel))
        (fun _ _ _ _ _ => pg_tup rfl (pgs_cons (pg_name (i := 2) scCore.nd rfl (.inl rfl) (.inr rfl)) (pgs_cons (pg_name (i := 3) scCore.nd rfl (.inl rfl) (.inr rfl)) pgs_nil))) (fun _ _ _ _ _ => pts_nil)
        (fun _ _ _ _ _ => pe_tup (pa_cons (pv 2) (pa_cons (pe_bm PySem.F.plainAttrs_list PySem.F.slot_list_index PySem.F.type_list_index mt_index (pv 1) (pa_cons (pv 3) pa_nil)) pa_nil)))) pa_nil)))), ?_⟩
    refine q_asgD (d := .list ((marksL (ends x)).map dI)) (ed_call (ea_Dc (ed_str (ev_var rfl)) ea_D) ⟨x, rfl, hx, rfl⟩) fun v1 H1 e1 h1 => ?_
    have el := ends_len' x
    have hxl := hx.2
    refine s_retD (ed_call (ds := [.list ((ranks x).map dR)]) (ea_Dc (ed_m ?_) ea_D) ⟨ranks x, rfl, (rank_small hx).1, (rank_small hx).2, rfl⟩) fun v H2 e2 hv => q v H2 (e1.trans e2) hv
    have e : (ranks x).map dR = ((ends x).filter (fun _ => true)).map fun q => dR (q.1, ix (marksL (ends x)) q.2) := by
      rw [filter_yes]
      unfold ranks
      rw [List.map_map]
      rfl
    rw [e]
    refine em_lcP (fun _ => true) _ (ed_call (ea_Dc (ed_str (ev_var rfl)) ea_D) ⟨x, rfl, hx, rfl⟩) (by omega) (fun q _ _ => lf_R (L := [(q.1, ix (marksL (ends x)) q.2)]) _ List.mem_cons_self) (fun _ _ => rfl) fun p hp H2 e2 => ⟨et_yes, fun _ => ?_⟩
    exact ed_tup (ea_Dc (ed_str (ev_var rfl)) (ea_Dc (ed_int (ev_index (ed_var rfl (h1.mono e2)) (ev_var rfl) (marks_mem.2 (.inr (List.mem_map.mpr ⟨p, hp, rfl⟩))))) ea_D)) (by show 2 ≤ 100000; decide)
/-! ### need_core -/
def preNeedCore : List PyData → PyData → Prop := fun ds d => ∃ x, ds = [.str (wd x)] ∧ Wd x ∧ core x = x ∧ d = .none
theorem scNeedCore : FnScope ["value"] ["value"] (defScope sNeedCore) := ⟨rfl, rfl, rfl, by decide +kernel, rfl, by decide +kernel, by decide +kernel⟩
theorem c_need_core (D : Dfn K mg "need_core" sNeedCore ["value"]) (Cn : Cal P w K mg base 1 "need_word" ["value"] (SpF preNeedWord)) (Cc : Cal P w K mg base 3 "core_of" ["word"] (SpF preCore)) : Cal P w K mg base 4 "need_core" ["value"] (SpF preNeedCore) := by
  refine cal_mk D scNeedCore (fun ds d h => by obtain ⟨x, rfl, _⟩ := h; rfl) fun f cdv A outer s H vs ds d Q E hr hv hp q => ?_
  obtain ⟨x, rfl, hx, hc, rfl⟩ := hp
  cases hv with
  | cons v0 hv =>
    cases hv
    cases v0
    refine ⟨_, pss_cons (ps_expr (pe_cal Cn (hr.mono (by decide)) (by rfl) (pa_cons (pv 0) pa_nil)))
      (pss_one (ps_if (pt_cmpR op_ne (pe_cal Cc hr (by rfl) (pa_cons (pv 0) pa_nil)) (pv 0) (nomark _)) (pss_one ps_never) pss_nil)), ?_⟩
    refine q_dropD (d := .none) (ed_call (ea_Dc (ed_str (ev_var rfl)) ea_D) ⟨x, rfl, hx, rfl⟩) fun H1 e1 => ?_
    refine s_when (b := false) (et_test (ev_is (ev_neS (a := core x) (b := x) (ev_str (ed_call (ea_Dc (ed_str (ev_var rfl)) ea_D) ⟨x, rfl, hx, rfl⟩)) (ev_var rfl)) (by rw [hc, decide_eq_true rfl]; rfl))) (fun z => absurd z (by decide)) fun _ H2 e2 => q _ H2 (e1.trans e2) .non
/-! ### levels_of -/
def preLevels : List PyData → PyData → Prop := fun ds d => ∃ x, ds = [.str (wd x)] ∧ Wd x ∧ d = dI (lev (tally x))
theorem scLevels : FnScope ["word", "letter"] ["word"] (defScope sLevels) := ⟨rfl, rfl, rfl, by decide +kernel, rfl, by decide +kernel, by decide +kernel⟩
theorem em_tally {σ : L2.St} {H : Hp} {x : List Nat} {i j : Nat} {vs : List Nat} (hx : (wipe σ vs)[i]? = some (some (.str (wd x)))) (hij : i ≠ j) (hj : j < σ.length) (hw : ∀ a, wipe ((wipe σ vs).set j (some a)) vs = wipe σ vs) :
    EvM (tLc (iStr (tC (.str (wd [97, 98, 99, 100])))) (gName j) tYes (tM1 rCountT (tVar i) (tVar j)) vs) σ H ((tally x).map dI) := by
  have e : (tally x).map dI = (([97, 98, 99, 100] : List Nat).filter (fun _ => true)).map fun c => dI (x.count c) := rfl
  rw [e]
  refine em_lcS (fun _ => true) _ ev_c (by decide) (fun _ _ _ => .int _) fun c hc H2 e2 R k => g_name (k _ (hw _) et_yes fun _ => ed_int (ev_countT (ev_var ?_) (ev_var ?_)))
  · rw [List.getElem?_set_ne (Ne.symm hij)]
    exact hx
  · rw [List.getElem?_set_self (by rw [wipe_length]; exact hj)]
theorem lev_le_len (x : List Nat) : lev (tally x) ≤ x.length := by
  rcases lev_mem (tally x) with e | e
  · rw [e]; exact Nat.zero_le _
  · simp only [tally, List.mem_cons, List.not_mem_nil, or_false] at e
    rcases e with e | e | e | e <;> (rw [show tally x = [x.count 97, x.count 98, x.count 99, x.count 100] from rfl, e]; exact List.count_le_length)
theorem c_levels_of (D : Dfn K mg "levels_of" sLevels ["word"]) (Y : Nms mg) : Cal P w K mg base 1 "levels_of" ["word"] (SpF preLevels) := by
  refine cal_mk D scLevels (fun ds d h => by obtain ⟨x, rfl, _⟩ := h; rfl) fun f cdv A outer s H vs ds d Q E hr hv hp q => ?_
  obtain ⟨x, rfl, hx, rfl⟩ := hp
  obtain ⟨tl, hl⟩ := Y.lt
  cases hv with
  | cons v0 hv =>
    cases hv
    cases v0
    refine ⟨_, pss_one (ps_ret (pe_callB (cr_max rfl) (by rfl) Y.max (by decide +kernel) (pa_cons (pe_op op_cat (pe_lst (pa_cons pe_int pa_nil))
      (pe_lc (own := [("letter", 1)]) (g := gName 1) rfl scLevels.nd (pi_str (pe_gl (v := .str (wd [97, 98, 99, 100])) (by rfl) hl ⟨_, rfl⟩)) (blkOk_by (N := ["word", "letter"]) (sc := defScope sLevels) (by decide +kernel)) (fun _ _ _ _ _ => pg_name (i := 1) scLevels.nd rfl (.inl rfl) (.inr rfl)) (fun _ _ _ _ _ => pts_nil)
        (fun _ _ _ _ _ => pe_m1 PySem.F.slot_str_count PySem.F.type_str_count mt_count (pv 0) (pv 1)))) pa_nil))), ?_⟩
    have e : ([dI 0] ++ (tally x).map dI) = (0 :: tally x).map dI := rfl
    refine s_retD (ed_I (ev_max (ns := 0 :: tally x) (ed_m ?_) ?_ fun n hn => ?_)) q
    · rw [← e]
      exact em_cat (ed_m (em_lst (ea_Dc (ed_int ev_c) ea_D) (by show 1 ≤ 100000; decide))) (ed_m (em_tally (x := x) rfl (by decide) (by show 1 < 2; decide) fun _ => rfl)) (by show 1 + 4 ≤ 100000; decide)
    · rcases lev_mem (tally x) with e | e
      · rw [e]; exact List.mem_cons_self
      · exact List.mem_cons_of_mem _ e
    · rcases List.mem_cons.mp hn with e | e
      · rw [e]; exact Nat.zero_le _
      · exact lev_le _ _ e
/-! ### coins_of, coins -/
def coinsW (x : List Nat) : List Nat := coinsR (lev (tally x)) (tally x)
def preCoinsOf : List PyData → PyData → Prop := fun ds d => ∃ x, ds = [.str (wd x)] ∧ Wd x ∧ d = .list ((coinsW x).map dI)
theorem scCoinsOf : FnScope ["word", "counts", "letter", "level", "count"] ["word"] (defScope sCoinsOf) := ⟨rfl, rfl, rfl, by decide +kernel, rfl, by decide +kernel, by decide +kernel⟩
theorem c_coins_of (D : Dfn K mg "coins_of" sCoinsOf ["word"]) (Y : Nms mg) (C : Cal P w K mg base 1 "levels_of" ["word"] (SpF preLevels)) : Cal P w K mg base 2 "coins_of" ["word"] (SpF preCoinsOf) := by
  refine cal_mk D scCoinsOf (fun ds d h => by obtain ⟨x, rfl, _⟩ := h; rfl) fun f cdv A outer s H vs ds d Q E hr hv hp q => ?_
  obtain ⟨x, rfl, hx, rfl⟩ := hp
  obtain ⟨tl, hl⟩ := Y.lt
  cases hv with
  | cons v0 hv =>
    cases hv
    cases v0
    refine ⟨_, pss_cons (ps_set (i := 1) scCoinsOf.nd rfl (.inr rfl) (pe_lc (own := [("letter", 2)]) (g := gName 2) rfl scCoinsOf.nd (pi_str (pe_gl (v := .str (wd [97, 98, 99, 100])) (by rfl) hl ⟨_, rfl⟩)) (blkOk_by (N := ["word", "counts", "letter", "level", "count"]) (sc := defScope sCoinsOf) (by decide +kernel)) (fun _ _ _ _ _ => pg_name (i := 2) scCoinsOf.nd rfl (.inl rfl) (.inr rfl)) (fun _ _ _ _ _ => pts_nil)
        (fun _ _ _ _ _ => pe_m1 PySem.F.slot_str_count PySem.F.type_str_count mt_count (pv 0) (pv 2))))
      (pss_one (ps_ret (pe_lc (own := [("level", 3)]) (g := gName 3) (te := tCB (rLenX K) (tCons (tLc (iList K (tVar 1)) (gName 4) (tTest (tOp (rI0 fun i j => .bl (decide (j ≤ i))) (tVar 4) (tVar 3))) (tC (.int 1)) [4]) tNil)) rfl scCoinsOf.nd (pi_range2 (by rfl) Y.range (pa_cons pe_int (pa_cons (pe_op op_add (pe_cal C hr (by rfl) (pa_cons (pv 0) pa_nil)) pe_int) pa_nil))) (blkOk_by (N := ["word", "counts", "letter", "level", "count"]) (sc := defScope sCoinsOf) (by decide +kernel)) (fun _ _ _ _ _ => pg_name (i := 3) scCoinsOf.nd rfl (.inr rfl) (.inl rfl)) (fun _ _ _ _ _ => pts_nil)
        (fun _ _ _ _ _ => pe_callB call_len (by rfl) Y.len PySem.boot_len (pa_cons (pe_lc (own := [("count", 4)]) (g := gName 4) rfl scCoinsOf.nd (pi_list (pv 1)) (blkOk_by (N := ["word", "counts", "letter", "level", "count"]) (sc := relS _ (defScope sCoinsOf)) (by decide +kernel)) (fun _ _ _ _ _ => pg_name (i := 4) scCoinsOf.nd rfl (.inl rfl) (.inr rfl)) (fun _ _ _ _ _ => pts_one (pt_cmpR op_ge (pv 4) (pv 3) (nomark _)))
          (fun _ _ _ _ _ => pe_int)) pa_nil))))), ?_⟩
    refine q_asgD (d := .list ((tally x).map dI)) (ed_m (em_tally (x := x) rfl (by decide) (by show 2 < 5; decide) fun _ => rfl)) fun v1 H1 e1 h1 => ?_
    have hxl := hx.2
    have lv := lev_le_len x
    refine s_retD (ed_m ?_) fun v H2 e2 hv => q v H2 (e1.trans e2) hv
    have e : (coinsW x).map dI = ((List.range (lev (tally x) + 1 - 1)).filter fun _ => true).map fun l => dI ((tally x).countP fun n => decide (l + 1 ≤ n)) := by
      unfold coinsW
      rw [coinsR_map, filter_yes, List.map_map, Nat.add_sub_cancel]
      rfl
    rw [e]
    refine em_lcR _ _ (fun _ => true) _ (rg2 (lo := 1) (n := lev (tally x) + 1) (ea_cons ev_c (ea_cons (ev_I2 (g := fun i j => .int (i + j)) (i := ((lev (tally x) : Nat) : Int)) (j := 1) (ev_int (ed_call (pre := preLevels) (d := dI (lev (tally x))) (ea_Dc (ed_str (ev_var rfl)) ea_D) ⟨x, rfl, hx, rfl⟩)) ev_c) ea_nil)) (by omega)) (by omega) (fun _ _ _ => .int _) fun l hl H2 e2 R k => g_name (k _ rfl et_yes fun _ => ?_)
    have e3 : (tally x).countP (fun n => decide (l + 1 ≤ n)) = (((tally x).filter fun n => decide (l + 1 ≤ n)).map fun _ => dI 1).length := by
      rw [List.length_map, ← List.countP_eq_length_filter]
    rw [e3]
    refine ed_I (ev_lenXL (ed_m ?_))
    refine em_lcA dI (tally x) _ _ (ed_var rfl (h1.mono e2)) (by show 4 ≤ 40000; decide) (fun _ _ _ => .int _) fun n hn y H3 e4 hy R k => ?_
    cases hy
    refine g_name (k _ rfl (et_is (et_test (ev_I2 (ev_var rfl) (ev_var rfl))) ?_) fun _ => ed_int ev_c)
    show decide (((1 : Nat) : Int) + (l : Int) ≤ ((n : Nat) : Int)) = decide (l + 1 ≤ n)
    by_cases h : l + 1 ≤ n
    · rw [decide_eq_true h, decide_eq_true (by omega)]
    · rw [decide_eq_false h, decide_eq_false (by omega)]
def preCoins : List PyData → PyData → Prop := fun ds d => ∃ x, ds = [.str (wd x)] ∧ Wd x ∧ core x = x ∧ d = .tuple ((coinsW x).map dI)
theorem scCoins : FnScope ["word"] ["word"] (defScope sCoins) := ⟨rfl, rfl, rfl, by decide +kernel, rfl, by decide +kernel, by decide +kernel⟩
abbrev rTupOf (K : PySem.W.Frag) : List V → Hp → VK → Prop := fun xs H Q => ∃ p ys, xs = [.ref p] ∧ ((SqL K H p ys ∧ ∀ l, H l = none → Q (.ref l) (upd H l (.tup ys))) ∨ (SqT K H p ys ∧ Q (.ref p) H))
theorem ed_tupleOf {σ : L2.St} {H : Hp} {ta : TE} {ds : List PyData} (ha : EvD ta σ H (.list ds)) : EvD (tCB (rTupOf K) (tCons ta tNil)) σ H (.tuple ds) := fun H1 a Q q => ha H1 a _ fun v H2 b2 c => by
  obtain ⟨p, xs, rfl, hp, hx⟩ := c.inj_list
  exact ⟨p, xs, rfl, .inl ⟨SqL.of hp, fun l hl => q _ _ (b2.trans (Ex.new hl)) (.tup upd_same (hx.mono (Ex.new hl)))⟩⟩
theorem c_coins (D : Dfn K mg "coins" sCoins ["word"]) (Y : Nms mg) (Cn : Cal P w K mg base 4 "need_core" ["value"] (SpF preNeedCore)) (C : Cal P w K mg base 2 "coins_of" ["word"] (SpF preCoinsOf)) : Cal P w K mg base 5 "coins" ["word"] (SpF preCoins) := by
  refine cal_mk D scCoins (fun ds d h => by obtain ⟨x, rfl, _⟩ := h; rfl) fun f cdv A outer s H vs ds d Q E hr hv hp q => ?_
  obtain ⟨x, rfl, hx, hc, rfl⟩ := hp
  cases hv with
  | cons v0 hv =>
    cases hv
    cases v0
    refine ⟨_, pss_cons (ps_expr (pe_cal Cn hr (by rfl) (pa_cons (pv 0) pa_nil)))
      (pss_one (ps_ret (pe_callTy call_tuple_of (by rfl) Y.tuple (by decide +kernel) (pa_cons (pe_cal C (hr.mono (by decide)) (by rfl) (pa_cons (pv 0) pa_nil)) pa_nil)))), ?_⟩
    refine q_dropD (d := .none) (ed_call (ea_Dc (ed_str (ev_var rfl)) ea_D) ⟨x, rfl, hx, hc, rfl⟩) fun H1 e1 => ?_
    exact s_retD (ed_tupleOf (ed_call (ea_Dc (ed_str (ev_var rfl)) ea_D) ⟨x, rfl, hx, rfl⟩)) fun v H2 e2 hv => q v H2 (e1.trans e2) hv
end
end K31

set_option maxRecDepth 100000
set_option maxHeartbeats 8000000
namespace K31
open PySem PySem.Spec PyProof.Rows L2 Evl StX
section
variable {K : PySem.W.Frag} {σ : L2.St} {H H' : Hp} {ta tb tc te tl td ty tv to ti : TE} {t tt : TT} {v x : V} {d : PyData} {ds : List PyData} {D : Ends} {tu tz : TS} {g : TG}
theorem em_rep {k : Nat} (ha : EvD ta σ H (.list [d])) (hb : Ev tb σ H (vI k)) (hk : k ≤ 100000) : EvM (tOp rRep ta tb) σ H (List.replicate k d) := fun H1 a Q q =>
  ha H1 a _ fun v H2 a2 c => hb H2 (a.trans a2) _ fun H3 a3 => by
    obtain ⟨p, xs, rfl, hp, hx⟩ := (c.mono a3).inj_list
    have hl := hx.length
    refine ⟨p, (k : Int), xs, rfl, rfl, hp, by omega, by omega, ?_, fun z hz => ?_⟩
    · rw [hl, Int.toNat_natCast]
      exact sz_of (by simp only [List.length_singleton]; omega)
    · rw [Int.toNat_natCast]
      exact q z _ _ (fresh_back (a2.trans a3) hz) ((a2.trans a3).trans (Ex.new hz)) upd_same ((hx.mono (Ex.new hz)).rep k)
theorem s_augL {p : Addr} {ns : List Nat} {j k : Nat} (hp : H p = some (.lst (ns.map vI))) (ho : Ev to σ H (.ref p)) (hi : Ev ti σ H (vI j)) (hj : j < ns.length) (he : Ev te σ H (vI k)) (kt : ∀ H1, Ex H H1 → D.nx σ (upd H1 p (.lst ((ns.set j (ns.getD j 0 + k)).map vI)))) :
    tAugS to ti te (rGetN K) (ipI fun i j => i + j) rSetL D σ H := ho H (Ex.refl H) _ fun H1 e1 => hi H1 e1 _ fun H2 e2 => by
  have x2 := e1.trans e2
  have ej : ns.getD j 0 = ns[j] := by simp [List.getD, hj]
  refine ⟨p, ns.map vI, j, vI (ns.getD j 0), rfl, rfl, SqL.of (x2 _ _ hp), ?_, he H2 x2 _ fun H3 e3 => ⟨_, _, rfl, rfl, p, ns.map vI, (j : Int), j, rfl, rfl, (x2.trans e3) _ _ hp, ?_, ?_⟩⟩
  · rw [List.getElem?_map, List.getElem?_eq_getElem hj, ej]
    rfl
  · rw [List.length_map]
    exact ixN_nat hj
  · have := kt H3 (x2.trans e3)
    rw [List.map_set] at this
    exact this
end
section
variable {P : Program} {w : World} {K : PySem.W.Frag} {mg : Str → Option Value} {base : Heap}
/-! ### payments -/
def prePay : List PyData → PyData → Prop := fun ds d => ∃ (cs : List Nat) (most : Nat), ds = [.list (cs.map dI), dI most] ∧ most ≤ 3000 ∧ (∀ c ∈ cs, c ≤ 3000) ∧ d = .list ((pay cs most).map dI)
theorem scPay : FnScope ["told", "most", "ways", "coin", "whole"] ["told", "most"] (defScope sPay) := ⟨rfl, rfl, rfl, by decide +kernel, rfl, by decide +kernel, by decide +kernel⟩
theorem getD_map_vI {ns : List Nat} {j : Nat} (h : j < ns.length) : (ns.map dI)[j]? = some (dI (ns.getD j 0)) := by
  have ej : ns.getD j 0 = ns[j] := by simp [List.getD, h]
  rw [List.getElem?_map, List.getElem?_eq_getElem h, ej]
  rfl
theorem c_payments (D : Dfn K mg "payments" sPay ["told", "most"]) (Y : Nms mg) : Cal P w K mg base 1 "payments" ["told", "most"] (SpF prePay) := by
  refine cal_mk D scPay (fun ds d h => by obtain ⟨x, m, rfl, _⟩ := h; rfl) fun f cdv A outer s H vs ds d Q E hr hv hp q => ?_
  obtain ⟨cs, most, rfl, hm, hc, rfl⟩ := hp
  cases hv with
  | cons v0 hv =>
    cases hv with
    | cons v1 hv =>
      cases hv
      cases v1
      obtain ⟨a, xa, rfl, ha, hxa⟩ := v0.inj_list
      have exa := dsAll_I hxa
      subst exa
      refine ⟨_, pss_cons (ps_set (i := 2) scPay.nd rfl (.inl rfl) (pe_op op_cat (pe_lst (pa_cons pe_int pa_nil)) (pe_op op_rep (pe_lst (pa_cons pe_int pa_nil)) (pv 1))))
        (pss_cons (ps_for PassesOwn.never rfl (pi_list (pv 0)) (pg_name (i := 3) scPay.nd rfl (.inl rfl))
          (pss_one (ps_for PassesOwn.never rfl (pi_range2 (by rfl) Y.range (pa_cons (pv 3) (pa_cons (pe_op op_add (pv 1) pe_int) pa_nil))) (pg_name (i := 4) scPay.nd rfl (.inl rfl))
            (pss_one (ps_augS (pv 2) (pv 4) get_list (pe_ix ix_list (pv 2) (pe_op op_sub (pv 4) (pv 3)) (fun _ _ => rfl)) ip_add set_list)))))
        (pss_one (ps_ret (pv 2)))), ?_⟩
      have e0 : (1 :: List.replicate most 0).map dI = [dI 1] ++ List.replicate most (dI 0) := by
        rw [List.map_cons, List.map_replicate]
        rfl
      refine q_asgM (ds := (1 :: List.replicate most 0).map dI) (by
        rw [e0]
        exact em_cat (ed_m (em_lst (ea_Dc (ed_int ev_c) ea_D) (by show 1 ≤ 100000; decide))) (ed_m (em_rep (ed_m (em_lst (ea_Dc (ed_int ev_c) ea_D) (by show 1 ≤ 100000; decide))) (ev_var rfl) (by omega))) (by simp only [List.length_singleton, List.length_replicate]; omega)) fun p xs H1 np e1 hp hxs => ?_
      have exs := dsAll_I hxs
      subst exs
      refine q_forA (a := a) (ev_var rfl) (e1 _ _ ha) (fun i σ' H' => Ex H H' ∧ (∃ y z, σ' = [some (.ref a), some (vI most), some (.ref p), y, z]) ∧ H' p = some (.lst (((cs.take i).foldl (pay1 most) (1 :: List.replicate most 0)).map vI)))
        (fun H2 e2 => ⟨e1.trans e2, ⟨none, none, rfl⟩, e2 _ _ hp⟩) (fun i σ' H' hp => hp.1 _ _ ha) (fun i v σ' H' hi hp => ?_) (fun σ' H' hp => ?_)
      · obtain ⟨ex, ⟨y, z, rfl⟩, hl⟩ := hp
        rw [List.getElem?_map] at hi
        cases hci : cs[i]? with
        | none => rw [hci] at hi; cases hi
        | some c =>
          rw [hci] at hi
          have ev : vI c = v := Option.some.inj hi
          subst ev
          have c3 := hc c (List.mem_of_getElem? hci)
          have wl : ((cs.take i).foldl (pay1 most) (1 :: List.replicate most 0)).length = most + 1 := by
            rw [pay_len]
            simp
          generalize hws : (cs.take i).foldl (pay1 most) (1 :: List.replicate most 0) = ws at hl wl
          refine g_name (s_forR2 (j := 4) (lo := (c : Int)) (n := ((most : Nat) : Int) + 1) (ea_cons (ev_var rfl) (ea_cons (ev_I2 (ev_var rfl) ev_c) ea_nil)) (by omega) (fun j σ2 H2 => Ex H H2 ∧ (∃ z, σ2 = [some (.ref a), some (vI most), some (.ref p), some (vI c), z]) ∧ H2 p = some (.lst ((payN c ws j).map vI)))
            (fun H2 e2 => ⟨ex.trans e2, ⟨z, rfl⟩, e2 _ _ hl⟩) (fun j σ2 H2 hj hp2 => ?_) (fun σ2 H2 hp2 => ?_))
          · obtain ⟨ex2, ⟨z2, rfl⟩, hl2⟩ := hp2
            have pl : (payN c ws j).length = most + 1 := by rw [payN_len, wl]
            have hs : Ev (tOp (rI0 fun i j => .int (i - j)) (tVar 4) (tVar 3)) [some (.ref a), some (vI most), some (.ref p), some (vI c), some (.int ((c : Int) + (j : Int)))] H2 (.int (j : Int)) := ev_is (ev_I2 (ev_var rfl) (ev_var rfl)) (congrArg V.int (by omega))
            refine s_augL (p := p) (ns := payN c ws j) (j := c + j) (k := (payN c ws j).getD j 0) hl2 (ev_var rfl) (ev_var rfl) (by omega) (ev_int (ed_ixL (i := (j : Int)) (ds := (payN c ws j).map dI) (ed_var rfl (.lst hl2 I_dsAll)) hs (atI_nat (getD_map_vI (by omega))))) fun H3 e3 => ?_
            · refine ⟨Ex.mut (ex2.trans e3) np, ⟨_, rfl⟩, ?_⟩
              rw [upd_same, payN_succ]
              rfl
          · obtain ⟨ex2, ⟨z2, rfl⟩, hl2⟩ := hp2
            refine ⟨ex2, ⟨_, _, rfl⟩, ?_⟩
            rw [fold_take hci, hws, hl2]
            have : (((most : Nat) : Int) + 1 - (c : Int)).toNat = most + 1 - c := by omega
            rw [this]
            rfl
      · obtain ⟨ex, ⟨y, z, rfl⟩, hl⟩ := hp
        rw [List.length_map, List.take_length] at hl
        exact s_retD (ed_var rfl (.lst hl I_dsAll)) fun v H2 e2 hv => q v H2 (ex.trans e2) hv
/-! ### count_of_length, counts_to -/
theorem coinsR_le : ∀ (k : Nat) (ns : List Nat), ∀ c ∈ coinsR k ns, c ≤ ns.length
  | 0, _, c, h => absurd h (by simp [coinsR])
  | k + 1, ns, c, h => by
    rcases List.mem_cons.mp (show c ∈ ns.countP _ :: coinsR k (ns.map fun n => n - 1) from h) with e | h
    · rw [e]; exact List.countP_le_length
    · have := coinsR_le k _ c h
      rw [List.length_map] at this
      exact this
theorem coinsW_le (x : List Nat) : ∀ c ∈ coinsW x, c ≤ 3000 := fun c h => by
  have : c ≤ 4 := coinsR_le _ _ c h
  omega
def preCount : List PyData → PyData → Prop := fun ds d => ∃ (x : List Nat) (n : Nat), ds = [.str (wd x), dI n] ∧ Wd x ∧ core x = x ∧ x.length ≤ n ∧ n ≤ 2000 ∧ d = dI ((pay (coinsW x) (n - x.length)).getD (n - x.length) 0)
theorem scCount : FnScope ["word", "size", "rest"] ["word", "size"] (defScope sCount) := ⟨rfl, rfl, rfl, by decide +kernel, rfl, by decide +kernel, by decide +kernel⟩
theorem c_count (D : Dfn K mg "count_of_length" sCount ["word", "size"]) (Y : Nms mg) (Cn : Cal P w K mg base 4 "need_core" ["value"] (SpF preNeedCore)) (Cf : Cal P w K mg base 3 "need_from" ["value", "least", "most"] (SpF preNeedFrom))
    (Cp : Cal P w K mg base 1 "payments" ["told", "most"] (SpF prePay)) (Cc : Cal P w K mg base 2 "coins_of" ["word"] (SpF preCoinsOf)) : Cal P w K mg base 5 "count_of_length" ["word", "size"] (SpF preCount) := by
  refine cal_mk D scCount (fun ds d h => by obtain ⟨x, m, rfl, _⟩ := h; rfl) fun f cdv A outer s H vs ds d Q E hr hv hp q => ?_
  obtain ⟨x, n, rfl, hx, hc, h1, h2, rfl⟩ := hp
  obtain ⟨tm, hm⟩ := Y.mostLength
  cases hv with
  | cons v0 hv =>
    cases hv with
    | cons v1 hv =>
      cases hv
      cases v0
      cases v1
      refine ⟨_, pss_cons (ps_expr (pe_cal Cn hr (by rfl) (pa_cons (pv 0) pa_nil)))
        (pss_cons (ps_expr (pe_cal Cf (hr.mono (by decide)) (by rfl) (pa_cons (pv 1) (pa_cons pe_int (pa_cons (pe_gl (v := .int 2000) (by rfl) hm ⟨_, rfl⟩) pa_nil)))))
        (pss_cons (ps_set (i := 2) scCount.nd rfl (.inl rfl) (pe_op op_sub (pv 1) (pe_callB call_len (by rfl) Y.len PySem.boot_len (pa_cons (pv 0) pa_nil))))
        (pss_one (ps_ret (pe_ifExp (pt_cmpR op_ge (pv 2) pe_int (nomark _)) (pe_ix ix_list (pe_cal Cp (hr.mono (by decide)) (by rfl) (pa_cons (pe_cal Cc (hr.mono (by decide)) (by rfl) (pa_cons (pv 0) pa_nil)) (pa_cons (pv 2) pa_nil))) (pv 2) (fun _ _ => rfl)) pe_int))))), ?_⟩
      refine q_dropD (d := .none) (ed_call (ea_Dc (ed_str (ev_var rfl)) ea_D) ⟨x, rfl, hx, hc, rfl⟩) fun H1 e1 => ?_
      refine q_dropD (d := .none) (ed_call (ea_Dc (ed_int (ev_var rfl)) (ea_Dc (ed_int ev_c) (ea_Dc (ed_int ev_c) ea_D))) ⟨(n : Int), 0, 2000, rfl, by omega, by omega, rfl⟩) fun H2 e2 => ?_
      have hxl := hx.2
      have en : ((n : Int)) - ((x.length : Nat) : Int) = ((n - x.length : Nat) : Int) := by omega
      refine q_asg (v := vI (n - x.length)) (ev_is (ev_I2 (ev_var rfl) (ev_lenW (ev_var rfl) (by omega))) (congrArg V.int en)) fun H3 e3 => ?_
      refine s_retD (ed_I (ev_if (b := true) (et_test (ev_is (ev_I2 (ev_var rfl) ev_c) ?_)) (fun _ => ?_) (fun z => absurd z (by decide)))) fun v H4 e4 hv => q v H4 (((e1.trans e2).trans e3).trans e4) hv
      · show V.bl (decide ((0 : Int) ≤ ((n - x.length : Nat) : Int))) = .bl true
        rw [decide_eq_true (by omega)]
      · refine ev_int (ed_ixL (i := ((n - x.length : Nat) : Int)) (ds := (pay (coinsW x) (n - x.length)).map dI) (ed_call (ds := [.list ((coinsW x).map dI), dI (n - x.length)]) (ea_Dc (ed_call (ea_Dc (ed_str (ev_var rfl)) ea_D) ⟨x, rfl, hx, rfl⟩) (ea_Dc (ed_int (ev_var rfl)) ea_D)) ⟨coinsW x, n - x.length, rfl, by omega, coinsW_le x, rfl⟩) (ev_var rfl) (atI_nat (getD_map_vI (by rw [pay_length]; omega))))
def preCounts : List PyData → PyData → Prop := fun ds d => ∃ (x : List Nat) (n : Nat), ds = [.str (wd x), dI n] ∧ Wd x ∧ core x = x ∧ n ≤ 200 ∧ d = .tuple ((countsM x.length (coinsW x) n).map dI)
theorem scCounts : FnScope ["word", "most", "ways", "size"] ["word", "most"] (defScope sCounts) := ⟨rfl, rfl, rfl, by decide +kernel, rfl, by decide +kernel, by decide +kernel⟩
theorem c_counts (D : Dfn K mg "counts_to" sCounts ["word", "most"]) (Y : Nms mg) (Cn : Cal P w K mg base 4 "need_core" ["value"] (SpF preNeedCore)) (Cf : Cal P w K mg base 3 "need_from" ["value", "least", "most"] (SpF preNeedFrom))
    (Cp : Cal P w K mg base 1 "payments" ["told", "most"] (SpF prePay)) (Cc : Cal P w K mg base 2 "coins_of" ["word"] (SpF preCoinsOf)) : Cal P w K mg base 5 "counts_to" ["word", "most"] (SpF preCounts) := by
  refine cal_mk D scCounts (fun ds d h => by obtain ⟨x, m, rfl, _⟩ := h; rfl) fun f cdv A outer s H vs ds d Q E hr hv hp q => ?_
  obtain ⟨x, n, rfl, hx, hc, h2, rfl⟩ := hp
  obtain ⟨tm, hm⟩ := Y.mostPath
  cases hv with
  | cons v0 hv =>
    cases hv with
    | cons v1 hv =>
      cases hv
      cases v0
      cases v1
      refine ⟨_, pss_cons (ps_expr (pe_cal Cn hr (by rfl) (pa_cons (pv 0) pa_nil)))
        (pss_cons (ps_expr (pe_cal Cf (hr.mono (by decide)) (by rfl) (pa_cons (pv 1) (pa_cons pe_int (pa_cons (pe_gl (v := .int 200) (by rfl) hm ⟨_, rfl⟩) pa_nil)))))
        (pss_cons (ps_set (i := 2) scCounts.nd rfl (.inr rfl) (pe_cal Cp (hr.mono (by decide)) (by rfl) (pa_cons (pe_cal Cc (hr.mono (by decide)) (by rfl) (pa_cons (pv 0) pa_nil)) (pa_cons (pv 1) pa_nil))))
        (pss_one (ps_ret (pe_callTy call_tuple_of (by rfl) Y.tuple (by decide +kernel) (pa_cons (pe_lc (own := [("size", 3)]) (g := gName 3) (te := tIf (tTest (tOp (rI0 fun i j => .bl (decide (j ≤ i))) (tVar 3) (tCB (rLenX K) (tCons (tVar 0) tNil)))) (tOp (rIxL K) (tVar 2) (tOp (rI0 fun i j => .int (i - j)) (tVar 3) (tCB (rLenX K) (tCons (tVar 0) tNil)))) (tC (.int 0)))
          rfl scCounts.nd (pi_range1 (by rfl) Y.range (pa_cons (pe_op op_add (pv 1) pe_int) pa_nil)) (blkOk_by (N := ["word", "most", "ways", "size"]) (sc := defScope sCounts) (by decide +kernel)) (fun _ _ _ _ _ => pg_name (i := 3) scCounts.nd rfl (.inl rfl) (.inr rfl)) (fun _ _ _ _ _ => pts_nil)
          (fun _ _ _ _ _ => pe_ifExp (pt_cmpR op_ge (pv 3) (pe_callB call_len (by rfl) Y.len PySem.boot_len (pa_cons (pv 0) pa_nil)) (nomark _)) (pe_ix ix_list (pv 2) (pe_op op_sub (pv 3) (pe_callB call_len (by rfl) Y.len PySem.boot_len (pa_cons (pv 0) pa_nil))) (fun _ _ => rfl)) pe_int)) pa_nil)))))), ?_⟩
      refine q_dropD (d := .none) (ed_call (ea_Dc (ed_str (ev_var rfl)) ea_D) ⟨x, rfl, hx, hc, rfl⟩) fun H1 e1 => ?_
      refine q_dropD (d := .none) (ed_call (ea_Dc (ed_int (ev_var rfl)) (ea_Dc (ed_int ev_c) (ea_Dc (ed_int ev_c) ea_D))) ⟨(n : Int), 0, 200, rfl, by omega, by omega, rfl⟩) fun H2 e2 => ?_
      have hxl := hx.2
      refine q_asgD (d := .list ((pay (coinsW x) n).map dI)) (ed_call (ds := [.list ((coinsW x).map dI), dI n]) (ea_Dc (ed_call (ea_Dc (ed_str (ev_var rfl)) ea_D) ⟨x, rfl, hx, rfl⟩) (ea_Dc (ed_int (ev_var rfl)) ea_D)) ⟨coinsW x, n, rfl, by omega, coinsW_le x, rfl⟩) fun v2 H3 e3 h3 => ?_
      have e : (countsM x.length (coinsW x) n).map dI = ((List.range (n + 1)).filter fun _ => true).map fun s => dI (if x.length ≤ s then (pay (coinsW x) n).getD (s - x.length) 0 else 0) := by
        unfold countsM
        rw [filter_yes, List.map_map]
        rfl
      refine s_retD (ed_tupleOf (ed_m ?_)) fun v H4 e4 hv => q v H4 (((e1.trans e2).trans e3).trans e4) hv
      rw [e]
      refine em_lcR _ _ (fun _ => true) _ (rg1 (n := n + 1) (ea_cons (ev_I2 (g := fun i j => .int (i + j)) (i := (n : Int)) (j := 1) (ev_var rfl) ev_c) ea_nil) (by omega)) (by omega) (fun _ _ _ => .int _) fun l hl H4 e4 R k => g_name (k _ rfl et_yes fun _ => ?_)
      have el : (0 : Int) + ((l : Nat) : Int) = (l : Int) := Int.zero_add _
      rw [el]
      refine ed_I (ev_if (b := decide (x.length ≤ l)) (et_is (et_test (ev_I2 (ev_var rfl) (ev_lenW (ev_var rfl) (by omega)))) ?_) (fun hb => ?_) fun hb => ?_)
      · show decide (((x.length : Nat) : Int) ≤ (l : Int)) = decide (x.length ≤ l)
        by_cases h : x.length ≤ l
        · rw [decide_eq_true h, decide_eq_true (by omega)]
        · rw [decide_eq_false h, decide_eq_false (by omega)]
      · have hb := of_decide_eq_true hb
        rw [if_pos hb]
        refine ev_int (ed_ixL (i := ((l - x.length : Nat) : Int)) (ds := (pay (coinsW x) n).map dI) (ed_var rfl (h3.mono e4)) (ev_is (ev_I2 (ev_var rfl) (ev_lenW (ev_var rfl) (by omega))) ?_) (atI_nat (getD_map_vI (by rw [pay_length]; omega))))
        show V.int ((l : Int) - ((x.length : Nat) : Int)) = _
        congr 1
        omega
      · have hb := of_decide_eq_false hb
        rw [if_neg hb]
        exact ev_c
/-! ### divisor_of -/
def preDiv : List PyData → PyData → Prop := fun ds d => ∃ (cs : List Nat), ds = [.list (cs.map dI)] ∧ d = dI (gcdM cs)
theorem scDiv : FnScope ["told", "found", "one"] ["told"] (defScope sDiv) := ⟨rfl, rfl, rfl, by decide +kernel, rfl, by decide +kernel, by decide +kernel⟩
theorem c_divisor (D : Dfn K mg "divisor_of" sDiv ["told"]) : Cal P w K mg base 1 "divisor_of" ["told"] (SpF preDiv) := by
  refine cal_mk D scDiv (fun ds d h => by obtain ⟨x, rfl, _⟩ := h; rfl) fun f cdv A outer s H vs ds d Q E hr hv hp q => ?_
  obtain ⟨cs, rfl, rfl⟩ := hp
  cases hv with
  | cons v0 hv =>
    cases hv
    obtain ⟨a, xa, rfl, ha, hxa⟩ := v0.inj_list
    have exa := dsAll_I hxa
    subst exa
    refine ⟨_, pss_cons (ps_set (i := 1) scDiv.nd rfl (.inl rfl) pe_int)
      (pss_cons (ps_for PassesOwn.never rfl (pi_list (pv 0)) (pg_name (i := 2) scDiv.nd rfl (.inl rfl))
        (pss_one (ps_while PassesOwn.never (pt_cmpR op_ne (pv 2) pe_int (nomark _)) (pss_one (ps_par (i := 1) (j := 2) rfl scDiv.nd rfl rfl (by decide) rfl rfl (pa_cons (pv 2) (pa_cons (pe_op op_modN (pv 1) (pv 2)) pa_nil)) (by rfl))))))
      (pss_one (ps_ret (pv 1)))), ?_⟩
    refine q_asg (v := vI 0) ev_c fun H1 e1 => ?_
    refine q_forA (a := a) (ev_var rfl) (e1 _ _ ha) (fun i σ' H' => Ex H H' ∧ ∃ z, σ' = [some (.ref a), some (vI ((cs.take i).foldl Nat.gcd 0)), z]) (fun H2 e2 => ⟨e1.trans e2, none, rfl⟩) (fun i σ' H' hp => hp.1 _ _ ha) (fun i v σ' H' hi hp => ?_) (fun σ' H' hp => ?_)
    · obtain ⟨ex, z, rfl⟩ := hp
      rw [List.getElem?_map] at hi
      cases hci : cs[i]? with
      | none => rw [hci] at hi; cases hi
      | some c =>
        rw [hci] at hi
        have ev : vI c = v := Option.some.inj hi
        subst ev
        rw [fold_take hci]
        generalize (cs.take i).foldl Nat.gcd 0 = g0
        refine g_name (s_while (fun m σ2 H2 => Ex H H2 ∧ ∃ f o : Nat, σ2 = [some (.ref a), some (vI f), some (vI o)] ∧ m = o ∧ Nat.gcd f o = Nat.gcd g0 c) c ⟨ex, g0, c, rfl, rfl, rfl⟩ fun m σ2 H2 hw => ?_)
        obtain ⟨ex2, f1, o, rfl, rfl, hg⟩ := hw
        refine ⟨decide (m ≠ 0), et_is (et_test (ev_neI (ev_var rfl) ev_c)) ?_, fun hb H3 e3 => ?_, fun hb H3 e3 => ?_⟩
        · by_cases h : m = 0
          · subst h; rfl
          · rw [decide_eq_true h, decide_eq_false (by omega)]
            rfl
        · have hm : m ≠ 0 := of_decide_eq_true hb
          refine ⟨fun σ' H' => Ex H H' ∧ σ' = [some (.ref a), some (vI m), some (vI (f1 % m))], fun σ' H' h => ⟨f1 % m, Nat.mod_lt _ (by omega), h.1, m, f1 % m, h.2, rfl, ?_⟩, ?_⟩
          · rw [← hg, Nat.gcd_comm f1 m, Nat.gcd_rec m f1, Nat.gcd_comm]
          · refine ⟨vI m, rfl, vI f1, rfl, vI m, rfl, (f1 : Int), (m : Int), rfl, rfl, by omega, _, _, rfl, ex2.trans e3, ?_⟩
            have : Int.fmod (f1 : Int) (m : Int) = ((f1 % m : Nat) : Int) := by
              rw [Int.fmod_eq_emod_of_nonneg _ (Int.natCast_nonneg m)]
              rfl
            show [some (.ref a), some (vI m), some (V.int (Int.fmod (f1 : Int) (m : Int)))] = _
            rw [this]
            rfl
        · have hm : m = 0 := by simpa using hb
          subst hm
          rw [Nat.gcd_zero_right] at hg
          subst hg
          exact ⟨ex2.trans e3, _, rfl⟩
    · obtain ⟨ex, z, rfl⟩ := hp
      rw [List.length_map, List.take_length]
      exact s_retD (ed_I (ev_var rfl)) fun v H2 e2 hv => q v H2 (ex.trans e2) hv
end
end K31

set_option maxRecDepth 100000
set_option maxHeartbeats 8000000
namespace K31
open PySem PySem.Spec PyProof.Rows L2 Evl StX
section
variable {P : Program} {w : World} {K : PySem.W.Frag} {mg : Str → Option Value} {base : Heap}
/-! ### greatest_missing -/
def missD (n : Nat) (cs : List Nat) : PyData := if gcdM cs = 1 then .int ((n : Int) + (match (missM cs).getLast? with | some k => (k : Int) | none => -1)) else .none
def preMiss : List PyData → PyData → Prop := fun ds d => ∃ (x : List Nat), ds = [.str (wd x)] ∧ Wd x ∧ core x = x ∧ d = missD x.length (coinsW x)
theorem scMiss : FnScope ["word", "told", "ways", "missing", "whole"] ["word"] (defScope sMissing) := ⟨rfl, rfl, rfl, by decide +kernel, rfl, by decide +kernel, by decide +kernel⟩
theorem c_missing (D : Dfn K mg "greatest_missing" sMissing ["word"]) (Y : Nms mg) (Cn : Cal P w K mg base 4 "need_core" ["value"] (SpF preNeedCore)) (Cd : Cal P w K mg base 1 "divisor_of" ["told"] (SpF preDiv))
    (Cp : Cal P w K mg base 1 "payments" ["told", "most"] (SpF prePay)) (Cc : Cal P w K mg base 2 "coins_of" ["word"] (SpF preCoinsOf)) : Cal P w K mg base 5 "greatest_missing" ["word"] (SpF preMiss) := by
  refine cal_mk D scMiss (fun ds d h => by obtain ⟨x, rfl, _⟩ := h; rfl) fun f cdv A outer s H vs ds d Q E hr hv hp q => ?_
  obtain ⟨x, rfl, hx, hc, rfl⟩ := hp
  cases hv with
  | cons v0 hv =>
    cases hv
    cases v0
    refine ⟨_, pss_cons (ps_expr (pe_cal Cn hr (by rfl) (pa_cons (pv 0) pa_nil)))
      (pss_cons (ps_set (i := 1) scMiss.nd rfl (.inl rfl) (pe_cal Cc (hr.mono (by decide)) (by rfl) (pa_cons (pv 0) pa_nil)))
      (pss_cons (ps_if (pt_cmpR op_ne (pe_cal Cd (hr.mono (by decide)) (by rfl) (pa_cons (pv 1) pa_nil)) pe_int (nomark _)) (pss_one (ps_ret pe_non)) pss_nil)
      (pss_cons (ps_set (i := 2) scMiss.nd rfl (.inr rfl) (pe_cal Cp (hr.mono (by decide)) (by rfl) (pa_cons (pv 1) (pa_cons pe_int pa_nil))))
      (pss_cons (ps_setLc (i := 3) (own := [("whole", 4)]) (g := gName 4) (te := tVar 4) rfl scMiss.nd rfl rfl (sw_true rfl rfl rfl (by decide +kernel)) (pi_range1 (by rfl) Y.range (pa_cons pe_int pa_nil)) (blkOk_by (N := ["word", "told", "ways", "missing", "whole"]) (sc := defScope sMissing) (by decide +kernel))
        (fun _ _ _ _ _ => pg_name (i := 4) scMiss.nd rfl (.inl rfl) (.inr rfl)) (tt := tTest (tOp rEq (tOp (rIxL K) (tVar 2) (tVar 4)) (tC (.int 0)))) (fun _ _ _ _ _ => pts_one (pt_cmpR op_eq (pe_ix ix_list (pv 2) (pv 4) (fun _ _ => rfl)) pe_int (nomark _))) (fun _ _ _ _ _ => pv 4))
      (pss_one (ps_ret (pe_op op_add (pe_callB call_len (by rfl) Y.len PySem.boot_len (pa_cons (pv 0) pa_nil)) (pe_ifExp (pt_cmpR (op_neD hr.units) (pv 3) (pe_lst pa_nil) (nomark _)) (pe_ix ix_list (pv 3) (pe_un un_neg pe_int) (fun _ _ => rfl)) (pe_un un_neg pe_int))))))))), ?_⟩
    refine q_dropD (d := .none) (ed_call (ea_Dc (ed_str (ev_var rfl)) ea_D) ⟨x, rfl, hx, hc, rfl⟩) fun H1 e1 => ?_
    refine q_asgD (d := .list ((coinsW x).map dI)) (ed_call (ea_Dc (ed_str (ev_var rfl)) ea_D) ⟨x, rfl, hx, rfl⟩) fun v1 H2 e2 h2 => ?_
    have hxl := hx.2
    have gd : ∀ H3, Ex H2 H3 → Ev (tCall (SpF preDiv) [] E0 (tCons (tVar 1) tNil)) [some (.str (wd x)), some v1, none, none, none] H3 (vI (gcdM (coinsW x))) := fun H3 e3 => ev_int (ed_call (ea_Dc (ed_var rfl (h2.mono e3)) ea_D) ⟨coinsW x, rfl, rfl⟩)
    refine q_when (b := !decide (gcdM (coinsW x) = 1)) (et_is (et_test (ev_neI (gd H2 (Ex.refl H2)) ev_c)) ?_) (fun hb H3 e3 => ?_) fun hb H3 e3 => ?_
    · by_cases h : gcdM (coinsW x) = 1
      · rw [h]; rfl
      · rw [decide_eq_false h, decide_eq_false (by omega)]
    · have hg : ¬ gcdM (coinsW x) = 1 := by simpa using hb
      have e : missD x.length (coinsW x) = .none := if_neg hg
      rw [e] at q
      exact s_ret (v := .non) ev_c fun H4 e4 => q _ H4 (((e1.trans e2).trans e3).trans e4) .non
    · have hg : gcdM (coinsW x) = 1 := by simpa using hb
      refine q_asgD (d := .list ((pay (coinsW x) 40).map dI)) (ed_call (ds := [.list ((coinsW x).map dI), dI 40]) (ea_Dc (ed_var rfl (h2.mono e3)) (ea_Dc (ed_int ev_c) ea_D)) ⟨coinsW x, 40, rfl, by decide, coinsW_le x, rfl⟩) fun v2 H4 e4 h4 => ?_
      have em : (missM (coinsW x)).map dI = ((List.range 41).filter fun k => (pay (coinsW x) 40).getD k 0 == 0).map dI := rfl
      refine q_asgM (ds := (missM (coinsW x)).map dI) (by
        rw [em]
        refine em_lcR _ _ (fun k => (pay (coinsW x) 40).getD k 0 == 0) _ (rg1 (n := 41) (ea_cons ev_c ea_nil) (by omega)) (by omega) (fun _ _ _ => .int _) fun l hl H5 e5 R k => g_name (k _ rfl (et_is (et_test (ev_eqI (i := (((pay (coinsW x) 40).getD l 0 : Nat) : Int)) (j := 0) (ev_int (ed_ixL (i := (l : Int)) (ds := (pay (coinsW x) 40).map dI) (ed_var rfl (h4.mono e5)) (ev_is (ev_var rfl) (congrArg V.int (Int.zero_add _))) (atI_nat (getD_map_vI (by rw [pay_length]; omega))))) ev_c)) ?_) fun _ => ed_int (ev_is (ev_var rfl) (congrArg V.int (Int.zero_add _))))
        by_cases h : (pay (coinsW x) 40).getD l 0 = 0
        · rw [h]; rfl
        · rw [decide_eq_false (by omega)]
          exact (beq_eq_false_iff_ne.mpr h).symm) fun p xs H5 np e5 hp hxs => ?_
      have ed : missD x.length (coinsW x) = .int ((x.length : Int) + (match (missM (coinsW x)).getLast? with | some k => (k : Int) | none => -1)) := if_pos hg
      rw [ed] at q
      refine s_retD (ed_int (ev_I2 (g := fun i j => .int (i + j)) (i := ((x.length : Nat) : Int)) (ev_lenW (ev_var rfl) (by omega)) (ev_if (b := !(missM (coinsW x)).isEmpty) (et_test (et_neD (ed_var rfl (.lst hp hxs)) (ed_m (em_lst ea_D (by decide))) (shaped_ints _) shaped_nil (by rw [eqv_nil, List.isEmpty_map]))) (fun hb => ?_) fun hb => ?_))) fun v H6 e6 hv => q v H6 (((((e1.trans e2).trans e3).trans e4).trans e5).trans e6) hv
      · have hne : missM (coinsW x) ≠ [] := fun e => by rw [e] at hb; exact absurd hb (by decide)
        obtain ⟨F, a, ea⟩ := last_of hne
        rw [ea] at hxs ⊢
        rw [List.getLast?_append]
        refine ev_int (ed_ixL (i := -1) (ds := (F ++ [a]).map dI) (ed_var rfl (.lst hp hxs)) (ev_neg ev_c) ?_)
        rw [List.map_append]
        exact atI_last' _ _
      · have he : missM (coinsW x) = [] := by simpa using hb
        rw [he]
        exact ev_neg ev_c
end
end K31

set_option maxRecDepth 100000
set_option maxHeartbeats 8000000
namespace K31
open PySem PySem.Spec PyProof.Rows L2 Evl StX
/-! ### stages -/
theorem stage_all (told : List Nat) (size : Nat) : ∀ i, ∀ q ∈ stageG told size i, q.1.length = i ∧ q.2 ≤ size
  | 0, q, h => by
    have : q = ([], size) := by simpa [stageG] using h
    subst this
    exact ⟨rfl, Nat.le_refl _⟩
  | i + 1, q, h => by
    rw [stageG_succ] at h
    obtain ⟨p, hp, hq⟩ := List.mem_flatMap.mp h
    obtain ⟨j, _, rfl⟩ := List.mem_map.mp hq
    obtain ⟨h1, h2⟩ := stage_all told size i p hp
    refine ⟨by simp [h1], ?_⟩
    show p.2 - (j + 1) * _ ≤ size
    omega
theorem flat_take {α β : Type} (f : α → List β) {l : List α} {j : Nat} {a : α} (h : l[j]? = some a) : (l.take (j + 1)).flatMap f = (l.take j).flatMap f ++ f a := by
  rw [List.take_add_one, h, List.flatMap_append]
  simp
theorem flat_le {α β : Type} (f : α → List β) (l : List α) (j : Nat) : ((l.take j).flatMap f).length ≤ (l.flatMap f).length := by
  have : l.flatMap f = (l.take j).flatMap f ++ (l.drop j).flatMap f := by rw [← List.flatMap_append, List.take_append_drop]
  rw [this, List.length_append]
  exact Nat.le_add_right _ _
theorem while_test {left rest c k : Nat} (hc : 1 ≤ c) : ((rest : Int) ≤ (left : Int) - ((k + 1 : Nat) : Int) * (c : Int)) ↔ k < (left - rest) / c := by
  rw [show (((k + 1 : Nat) : Int) * (c : Int)) = (((k + 1) * c : Nat) : Int) from (Int.natCast_mul (k + 1) c).symm]
  have e : k < (left - rest) / c ↔ (k + 1) * c ≤ left - rest := Nat.le_div_iff_mul_le (by omega)
  rw [e]
  have : 1 ≤ (k + 1) * c := Nat.le_trans hc (Nat.le_mul_of_pos_left c (Nat.succ_pos k))
  omega
section
variable {K : PySem.W.Frag} {σ : L2.St} {H H' : Hp} {ta tb tc te tl td ty tv to ti : TE} {t tt : TT} {v x : V} {d : PyData} {ds : List PyData} {D : Ends} {tu tz : TS} {g : TG}
def dT (g : List Nat) : PyData := .tuple (g.map dI)
def dQ (q : List Nat × Nat) : PyData := .tuple [dT q.1, dI q.2]
theorem lf_T (g : List Nat) : LF (dT g) := .tup lf_I
theorem lf_Q (q : List Nat × Nat) : LF (dQ q) := .tup fun e he => by
  rcases List.mem_cons.mp he with rfl | he
  · exact lf_T _
  · rw [List.mem_singleton.mp he]; exact .int _
theorem lf_Qs {L : List (List Nat × Nat)} : ∀ d ∈ L.map dQ, LF d := fun d h => by
  obtain ⟨q, _, rfl⟩ := List.mem_map.mp h
  exact lf_Q q
theorem s_forEnL {a : Addr} {cs : List Nat} {i1 i2 : Nat} {ta : TA} (h : EvA ta σ H [.ref a]) (ha : H a = some (.lst (cs.map vI))) (Pv : Nat → L2.St → Hp → Prop) (h0 : ∀ H1, Ex H H1 → Pv 0 σ H1) (hG : ∀ i σ' H', Pv i σ' H' → H' a = some (.lst (cs.map vI)))
    (hs : ∀ i c σ' H', cs[i]? = some c → Pv i σ' H' → ∀ H2, Ex H' H2 → tu { D with nx := Pv (i + 1), ct := Pv (i + 1), bk := D.nx } ((σ'.set i1 (some (vI i))).set i2 (some (vI c))) H2) (hd : ∀ σ' H', Pv cs.length σ' H' → D.nx σ' H') :
    tFor (iEnum K ta) (gTup K 2 (gCons (gName i1) (gCons (gName i2) gNil))) tu D σ H := h H (Ex.refl H) _ fun H1 e1 => ⟨a, cs.map vI, rfl, SqL.of (e1 _ _ ha), for_it (walk_enum (xs := cs.map vI)) Pv (h0 H1 e1) (fun i σ' H' _ p => SqL.of (hG i σ' H' p)) (fun i v σ' H2 H3 hi hp y => by
    obtain ⟨T, z1, z2, rfl, hT, rfl, g1, g2⟩ := y
    have e1 : V.int (i : Nat) = z1 := Option.some.inj g1
    subst e1
    have g2 : (cs.map vI)[i]? = some z2 := g2
    rw [List.getElem?_map] at g2
    cases hc : cs[i]? with
    | none => rw [hc] at g2; cases g2
    | some c =>
      rw [hc] at g2
      have e2 : vI c = z2 := Option.some.inj g2
      subst e2
      exact g_pair rfl upd_same (hs i c σ' H2 hc hp _ (Ex.new hT))) (fun σ' H' hp => hd σ' H' (by rw [List.length_map] at hp; exact hp))⟩
theorem q_forEnL {a : Addr} {cs : List Nat} {i1 i2 : Nat} {ta : TA} (h : EvA ta σ H [.ref a]) (ha : H a = some (.lst (cs.map vI))) (Pv : Nat → L2.St → Hp → Prop) (h0 : ∀ H1, Ex H H1 → Pv 0 σ H1) (hG : ∀ i σ' H', Pv i σ' H' → H' a = some (.lst (cs.map vI)))
    (hs : ∀ i c σ' H', cs[i]? = some c → Pv i σ' H' → ∀ H2, Ex H' H2 → tu { D with nx := Pv (i + 1), ct := Pv (i + 1), bk := tz D } ((σ'.set i1 (some (vI i))).set i2 (some (vI c))) H2) (hd : ∀ σ' H', Pv cs.length σ' H' → tz D σ' H') :
    tSeq (tFor (iEnum K ta) (gTup K 2 (gCons (gName i1) (gCons (gName i2) gNil))) tu) tz D σ H := s_forEnL (D := { D with nx := tz D }) h ha Pv h0 hG hs hd
theorem sum_ofNat : ∀ ns : List Nat, (ns.map Int.ofNat).sum = ((ns.sum : Nat) : Int)
  | [] => rfl
  | n :: ns => by
    rw [List.map_cons, List.sum_cons, List.sum_cons, sum_ofNat ns]
    rfl
/-- sum(told[k:]) -/
theorem ev_sumFrom {a : Addr} {cs : List Nat} {k : Nat} {to1 : TO} (ha : H a = some (.lst (cs.map vI))) (h : Ev ta σ H (.ref a)) (hk : EvO to1 σ H (some (k : Int))) : Ev (tCB (rSum K) (tCons (tSl (rSlL K) ta to1 tNoPart) tNil)) σ H (vI (cs.drop k).sum) := fun H1 e Q q =>
  el_sl h hk eo_none (SqL.of ha) H1 e _ fun p H2 _ e2 hp => by
    refine ⟨p, (cs.drop k).map Int.ofNat, rfl, SqL.of ?_, ?_⟩
    · rw [hp, ← vI_int]
      congr 2
      unfold cutV
      rw [HT.sIx_none, HT.sIx_nat, List.length_map]
      by_cases h : k ≤ cs.length
      · rw [Nat.min_eq_left h, ← List.map_drop, List.take_of_length_le (by simp)]
      · rw [Nat.min_eq_right (by omega), List.drop_eq_nil_of_le (by simp), List.drop_eq_nil_of_le (by omega)]
        simp
    · rw [sum_ofNat]
      exact q H2 e2
end
section
variable {P : Program} {w : World} {K : PySem.W.Frag} {mg : Str → Option Value} {base : Heap}
def preGaps : List PyData → PyData → Prop := fun ds d => ∃ (x : List Nat) (n : Nat), ds = [.str (wd x), dI n] ∧ Wd x ∧ core x = x ∧ x.length ≤ n ∧ n ≤ 200 ∧ (pay (coinsW x) (n - x.length)).getD (n - x.length) 0 ≤ 5000 ∧ (∀ c ∈ coinsW x, 1 ≤ c) ∧
  maxG (coinsW x) [([], n)] ≤ 20000 ∧ d = .list ((gapsM (coinsW x) n).map dT)
theorem scGaps : FnScope ["word", "size", "told", "found", "at", "coin", "later", "rest", "row", "left", "gap"] ["word", "size"] (defScope sGapsLen) := ⟨rfl, rfl, rfl, by decide +kernel, rfl, by decide +kernel, by decide +kernel⟩
theorem coinsR_length : ∀ (k : Nat) (ns : List Nat), (coinsR k ns).length = k
  | 0, _ => rfl
  | k + 1, ns => congrArg (· + 1) (coinsR_length k _)
theorem coinsW_len (x : List Nat) : (coinsW x).length ≤ x.length := by
  unfold coinsW
  rw [coinsR_length]
  exact lev_le_len x
theorem c_gaps (D : Dfn K mg "gaps_of_length" sGapsLen ["word", "size"]) (Y : Nms mg) (Cn : Cal P w K mg base 4 "need_core" ["value"] (SpF preNeedCore)) (Cf : Cal P w K mg base 3 "need_from" ["value", "least", "most"] (SpF preNeedFrom))
    (Cl : Cal P w K mg base 5 "count_of_length" ["word", "size"] (SpF preCount)) (Cc : Cal P w K mg base 2 "coins_of" ["word"] (SpF preCoinsOf)) : Cal P w K mg base 6 "gaps_of_length" ["word", "size"] (SpF preGaps) := by
  refine cal_mk D scGaps (fun ds d h => by obtain ⟨x, m, rfl, _⟩ := h; rfl) fun f cdv A outer s H vs ds d Q E hr hv hp q => ?_
  obtain ⟨x, n, rfl, hx, hc, h1, h2, h5, hc1, hM, rfl⟩ := hp
  obtain ⟨tm, hm⟩ := Y.mostPath
  obtain ⟨tma, hma⟩ := Y.mostAll
  cases hv with
  | cons v0 hv =>
    cases hv with
    | cons v1 hv =>
      cases hv
      cases v0
      cases v1
      refine ⟨_, pss_cons (ps_expr (pe_cal Cn (hr.mono (by decide)) (by rfl) (pa_cons (pv 0) pa_nil)))
        (pss_cons (ps_expr (pe_cal Cf (hr.mono (by decide)) (by rfl) (pa_cons (pv 1) (pa_cons pe_int (pa_cons (pe_gl (v := .int 200) (by rfl) hm ⟨_, rfl⟩) pa_nil)))))
        (pss_cons (ps_if (pt_cmpR op_gt (pe_cal Cl hr (by rfl) (pa_cons (pv 0) (pa_cons (pv 1) pa_nil))) (pe_gl (v := .int 5000) (by rfl) hma ⟨_, rfl⟩) (nomark _)) (pss_one ps_never) pss_nil)
        (pss_cons (ps_par (i := 2) (j := 3) rfl scGaps.nd rfl rfl (by decide) rfl rfl (pa_cons (pe_cal Cc (hr.mono (by decide)) (by rfl) (pa_cons (pv 0) pa_nil)) (pa_cons (pe_lst (pa_cons (pe_tup (pa_cons (pe_tup pa_nil) (pa_cons (pv 1) pa_nil))) pa_nil)) pa_nil)) (by rfl))
        (pss_cons (ps_for PassesOwn.never rfl (pi_enum (by rfl) Y.enumerate (pa_cons (pv 2) pa_nil)) (pg_tup rfl (pgs_cons (pg_name (i := 4) scGaps.nd rfl (.inl rfl)) (pgs_cons (pg_name (i := 5) scGaps.nd rfl (.inl rfl)) pgs_nil)))
          (pss_cons (ps_set (i := 6) scGaps.nd rfl (.inl rfl) (pe_lst pa_nil))
          (pss_cons (ps_set (i := 7) scGaps.nd rfl (.inl rfl) (pe_callB (cr_sum rfl) (by rfl) Y.sum (by decide +kernel) (pa_cons (pe_slice sl_list (pv 2) (po_some (pe_op op_add (pv 4) pe_int)) po_none) pa_nil)))
          (pss_cons (ps_for PassesOwn.never rfl (pi_list (pv 3)) (pg_tup rfl (pgs_cons (pg_name (i := 8) scGaps.nd rfl (.inl rfl)) (pgs_cons (pg_name (i := 9) scGaps.nd rfl (.inl rfl)) pgs_nil)))
            (pss_cons (ps_set (i := 10) scGaps.nd rfl (.inl rfl) pe_int)
            (pss_one (ps_while PassesOwn.never (pt_cmpR op_ge (pe_op op_sub (pv 9) (pe_op op_mul (pv 10) (pv 5))) (pv 7) (nomark _))
              (pss_cons (ps_expr (pe_bm PySem.F.plainAttrs_list PySem.F.slot_list_append PySem.F.type_list_append mt_append (pv 6) (pa_cons (pe_tup (pa_cons (pe_tup (pa_star (pv 8) (pa_cons (pv 10) pa_nil))) (pa_cons (pe_op op_sub (pv 9) (pe_op op_mul (pv 10) (pv 5))) pa_nil))) pa_nil)))
              (pss_one (ps_aug (i := 10) scGaps.nd rfl (.inl rfl) pe_int ip_add)))))))
          (pss_one (ps_set (i := 3) scGaps.nd rfl (.inl rfl) (pv 6)))))))
        (pss_one (ps_ret (pe_lc (own := [("row", 8), ("left", 9)]) (g := gTup K 2 (gCons (gName 8) (gCons (gName 9) gNil))) (te := tVar 8) (tt := tTest (tOp rEq (tVar 9) (tC (.int 0)))) rfl scGaps.nd (pi_list (pv 3)) (blkOk_by (N := ["word", "size", "told", "found", "at", "coin", "later", "rest", "row", "left", "gap"]) (sc := defScope sGapsLen) (by decide +kernel))
          (fun _ _ _ _ _ => pg_tup rfl (pgs_cons (pg_name (i := 8) scGaps.nd rfl (.inl rfl) (.inr rfl)) (pgs_cons (pg_name (i := 9) scGaps.nd rfl (.inl rfl) (.inr rfl)) pgs_nil))) (fun _ _ _ _ _ => pts_one (pt_cmpR op_eq (pv 9) pe_int (nomark _))) (fun _ _ _ _ _ => pv 8)))))))), ?_⟩
      refine q_dropD (d := .none) (ed_call (ea_Dc (ed_str (ev_var rfl)) ea_D) ⟨x, rfl, hx, hc, rfl⟩) fun H1 e1 => ?_
      refine q_dropD (d := .none) (ed_call (ea_Dc (ed_int (ev_var rfl)) (ea_Dc (ed_int ev_c) (ea_Dc (ed_int ev_c) ea_D))) ⟨(n : Int), 0, 200, rfl, by omega, by omega, rfl⟩) fun H2 e2 => ?_
      have hxl := hx.2
      refine q_when (b := false) (et_test (ev_is (ev_I2 (i := (((pay (coinsW x) (n - x.length)).getD (n - x.length) 0 : Nat) : Int)) (j := 5000) (ev_int (ed_call (ds := [.str (wd x), dI n]) (ea_Dc (ed_str (ev_var rfl)) (ea_Dc (ed_int (ev_var rfl)) ea_D)) ⟨x, n, rfl, hx, hc, h1, by omega, rfl⟩)) ev_c) ?_)) (fun z => absurd z (by decide)) fun _ H3 e3 => ?_
      · show V.bl (decide ((5000 : Int) < _)) = .bl false
        rw [decide_eq_false (by omega)]
      generalize hcs : coinsW x = cs at hc1 hM q
      have cl : cs.length ≤ 40 := by
        have := coinsW_len x
        rw [hcs] at this
        omega
      -- told, found = ..
      refine (ed_call (pre := preCoinsOf) (E := E0) (ds := [.str (wd x)]) (d := .list ((coinsW x).map dI)) (ea_Dc (ed_str (ev_var rfl)) ea_D) ⟨x, rfl, hx, rfl⟩ : EvD _ _ H3 _) H3 (Ex.refl H3) _ fun v2 H4 e4 hv2 => ?_
      rw [hcs] at hv2
      refine (em_lst (ds := [dQ ([], n)]) (ea_Dc (ed_tup (ea_Dc (ed_tup ea_D (by show 0 ≤ 100000; decide)) (ea_Dc (ed_int (ev_var rfl)) ea_D)) (by show 2 ≤ 100000; decide)) ea_D) (by show 1 ≤ 100000; decide) : EvM _ _ H4 _) H4 (Ex.refl H4) _ fun pf xf H5 npf e5 hpf hxf => ⟨_, _, rfl, ?_⟩
      have hv2 := hv2.mono e5
      obtain ⟨a, xa, rfl, ha, hxa⟩ := hv2.inj_list
      have exa := dsAll_I hxa
      subst exa
      have exH : Ex H H5 := (((e1.trans e2).trans e3).trans e4).trans e5
      refine q_forEnL (a := a) (cs := cs) (ea_cons (ev_var rfl) ea_nil) ha (fun i σ' H' => Ex H5 H' ∧ ∃ vf y4 y5 y6 y7 y8 y9 y10, σ' = [some (.str (wd x)), some (vI n), some (.ref a), some vf, y4, y5, y6, y7, y8, y9, y10] ∧ Ds H' vf (.list ((stageG cs n i).map dQ)))
        (fun H6 e6 => ⟨e6, .ref pf, none, none, none, none, none, none, none, rfl, .lst (e6 _ _ hpf) (hxf.mono e6)⟩) (fun i σ' H' hp => hp.1 _ _ ha) (fun i c σ' H' hci hp H6 e6 => ?_) (fun σ' H' hp => ?_)
      · obtain ⟨ex, vf, y4, y5, y6, y7, y8, y9, y10, rfl, hvf⟩ := hp
        have il : i < cs.length := (List.getElem?_eq_some_iff.mp hci).1
        have c1 := hc1 c (List.mem_of_getElem? hci)
        have gc : cs.getD i 0 = c := by simp [List.getD, hci]
        have hvf := hvf.mono e6
        have ex6 : Ex H5 H6 := ex.trans e6
        refine q_asgM (ds := []) (em_lst ea_D (by decide)) fun p xs H7 np e7 hp7 hxs => ?_
        cases hxs
        refine q_asg (v := vI (cs.drop (i + 1)).sum) (ev_sumFrom (a := a) (k := i + 1) (e7 _ _ (ex6 _ _ ha)) (ev_var rfl) (eo_some (ev_is (ev_I2 (ev_var rfl) ev_c) rfl))) fun H8 e8 => ?_
        generalize hrest : (cs.drop (i + 1)).sum = rest
        generalize hst : stageG cs n i = st at hvf
        have hnext : stageG cs n (i + 1) = st.flatMap (stepG1 rest c) := by
          rw [stageG_succ, hst, hrest, gc]
          rfl
        have hstall : ∀ q ∈ st, q.1.length = i ∧ q.2 ≤ n := fun q hq => stage_all cs n i q (by rw [hst]; exact hq)
        have hbig : (st.flatMap (stepG1 rest c)).length ≤ 20000 := by
          rw [← hnext]
          exact Nat.le_trans (stage_bound cs n (i + 1) il) hM
        obtain ⟨b, xb, rfl, hb, hxb⟩ := hvf.inj_list
        have lb : xb.length = st.length := by rw [hxb.length, List.length_map]
        refine q_forA (a := b) (xs := xb) (ev_var rfl) ((e7.trans e8) _ _ hb) (fun j σ2 H2 => Ex H6 H2 ∧ (∃ y8 y9 y10, σ2 = [some (.str (wd x)), some (vI n), some (.ref a), some (.ref b), some (vI i), some (vI c), some (.ref p), some (vI rest), y8, y9, y10]) ∧ ∃ ys, H2 p = some (.lst ys) ∧ DsAll H2 ys (((st.take j).flatMap (stepG1 rest c)).map dQ))
          (fun H9 e9 => ⟨(e7.trans e8).trans e9, ⟨y8, y9, y10, rfl⟩, [], e9 _ _ (e8 _ _ hp7), .nil⟩) (fun j σ2 H2 hp2 => hp2.1 _ _ hb) (fun j v σ2 H2 hj hp2 => ?_) (fun σ2 H2 hp2 => ?_)
        · -- one row
          obtain ⟨ex2, ⟨z8, z9, z10, rfl⟩, ys, hys, hds⟩ := hp2
          obtain ⟨dd, hd1, hd2⟩ := hxb.get hj
          obtain ⟨q0, hq0⟩ : ∃ q0, st[j]? = some q0 := by
            have := (List.getElem?_eq_some_iff.mp hj).1
            exact ⟨st[j]'(by omega), List.getElem?_eq_getElem (by omega)⟩
          rw [List.getElem?_map, hq0] at hd1
          have : dQ q0 = dd := Option.some.inj hd1
          subst this
          obtain ⟨row, left⟩ := q0
          obtain ⟨T, vr, vl, rfl, hT, hvr, hvl⟩ := hd2.pair
          cases hvl
          obtain ⟨rl, ll⟩ := hstall (row, left) (List.mem_of_getElem? hq0)
          have rl : row.length = i := rl
          have ll : left ≤ n := ll
          have hfull := flat_take (stepG1 rest c) hq0
          have hsmall : (((st.take j).flatMap (stepG1 rest c)) ++ stepG1 rest c (row, left)).length ≤ 20000 := by
            rw [← hfull]
            exact Nat.le_trans (flat_le _ _ _) hbig
          generalize hpre : (st.take j).flatMap (stepG1 rest c) = pre at hds hfull hsmall
          have hN : (left - rest) / c ≤ left := Nat.le_trans (Nat.div_le_self _ _) (Nat.sub_le _ _)
          generalize hNN : (left - rest) / c = N at hN
          have hs1 : stepG1 rest c (row, left) = (List.range N).map fun k => (row ++ [k + 1], left - (k + 1) * c) := by rw [← hNN]; rfl
          have hlN : pre.length + N ≤ 20000 := by
            rw [List.length_append, hs1, List.length_map, List.length_range] at hsmall
            exact hsmall
          refine g_pair rfl (ex2 _ _ hT) (q_asg (v := vI 1) ev_c fun H9 e9 => ?_)
          have B9 : Ex H6 H9 := ex2.trans e9
          have lfr : ∀ d ∈ row.map dI, LF d := lf_I
          have ev1 : ∀ (k : Nat) H3, k ≤ N → Ev (tOp (rI0 fun i j => .int (i - j)) (tVar 9) (tOp (rI CMul fun i j => .int (i * j)) (tVar 10) (tVar 5))) [some (.str (wd x)), some (vI n), some (.ref a), some (.ref b), some (vI i), some (vI c), some (.ref p), some (vI rest), some vr, some (vI left), some (vI (k + 1))] H3 (.int ((left : Int) - ((k + 1 : Nat) : Int) * (c : Int))) := fun k H3 hk =>
            ev_I2 (ev_var rfl) (ev_op (ev_var rfl) (ev_var rfl) (rv_I (.inl ⟨by omega, by omega⟩)))
          refine s_while (fun m σ3 H3 => Ex H6 H3 ∧ ∃ k, σ3 = [some (.str (wd x)), some (vI n), some (.ref a), some (.ref b), some (vI i), some (vI c), some (.ref p), some (vI rest), some vr, some (vI left), some (vI (k + 1))] ∧ k ≤ N ∧ m = N - k ∧ ∃ ys, H3 p = some (.lst ys) ∧ DsAll H3 ys ((pre ++ (List.range k).map fun k => (row ++ [k + 1], left - (k + 1) * c)).map dQ)) N
            ⟨B9, 0, rfl, Nat.zero_le _, rfl, ys, e9 _ _ hys, by rw [List.range_zero, List.map_nil, List.append_nil]; exact hds.mono e9⟩ (fun m σ3 H3 hw => ?_)
          obtain ⟨ex3, k, rfl, hkN, rfl, zs, hzs, hzd⟩ := hw
          refine ⟨decide (k < N), et_is (et_test (ev_I2 (ev1 k H3 hkN) (ev_var rfl))) ?_, fun hb H4 e4 => ?_, fun hb H4 e4 => ?_⟩
          · show decide ((rest : Int) ≤ (left : Int) - ((k + 1 : Nat) : Int) * (c : Int)) = decide (k < N)
            have := while_test (left := left) (rest := rest) (k := k) c1
            rw [hNN] at this
            by_cases h : k < N
            · rw [decide_eq_true h, decide_eq_true (this.2 h)]
            · rw [decide_eq_false h, decide_eq_false fun z => h (this.1 z)]
          · have hk : k < N := of_decide_eq_true hb
            refine ⟨fun σ5 H5' => Ex H6 H5' ∧ σ5 = [some (.str (wd x)), some (vI n), some (.ref a), some (.ref b), some (vI i), some (vI c), some (.ref p), some (vI rest), some vr, some (vI left), some (vI (k + 1 + 1))] ∧ ∃ ys, H5' p = some (.lst ys) ∧ DsAll H5' ys ((pre ++ (List.range (k + 1)).map fun k => (row ++ [k + 1], left - (k + 1) * c)).map dQ),
              fun σ5 H5' h5 => ⟨N - (k + 1), by omega, h5.1, k + 1, h5.2.1, hk, rfl, h5.2.2⟩, ?_⟩
            have ex4 : Ex H6 H4 := ex3.trans e4
            have hlen : (pre ++ (List.range k).map fun k => (row ++ [k + 1], left - (k + 1) * c)).length ≤ 20000 := by
              rw [List.length_append, List.length_map, List.length_range]
              omega
            have hsub : ((left : Int) - ((k + 1 : Nat) : Int) * (c : Int)) = ((left - (k + 1) * c : Nat) : Int) := by
              have h1 := (while_test (left := left) (rest := rest) (k := k) c1).2 (by rw [hNN]; exact hk)
              rw [show (((k + 1 : Nat) : Int) * (c : Int)) = (((k + 1) * c : Nat) : Int) from (Int.natCast_mul (k + 1) c).symm] at h1 ⊢
              omega
            have etup : EvD (tTup (tCons (tTup (tStar K (tVar 8) (tCons (tVar 10) tNil))) (tCons (tOp (rI0 fun i j => .int (i - j)) (tVar 9) (tOp (rI CMul fun i j => .int (i * j)) (tVar 10) (tVar 5))) tNil))) [some (.str (wd x)), some (vI n), some (.ref a), some (.ref b), some (vI i), some (vI c), some (.ref p), some (vI rest), some vr, some (vI left), some (vI (k + 1))] H4 (dQ (row ++ [k + 1], left - (k + 1) * c)) := by
              refine ed_tup (ea_Dc (d := dT (row ++ [k + 1])) ?_ (ea_Dc (ed_I (ev_is (ev1 k H4 hkN) (congrArg V.int hsub))) ea_D)) (by show 2 ≤ 100000; decide)
              have e : (row ++ [k + 1]).map dI = row.map dI ++ [dI (k + 1)] := by rw [List.map_append]; rfl
              unfold dT
              rw [e]
              refine ed_tup (ea_star (ed_var rfl (hvr.mono ex4)) (ea_Dc (ed_I (ev_var rfl)) ea_D)) ?_
              rw [List.length_append, List.length_map]
              simp only [List.length_singleton]
              omega
            refine q_appD (e4 _ _ hzs) (hzd.mono e4) lf_Qs (ev_var rfl) etup (lf_Q _) (by rw [List.length_map]; omega) fun v H7' e7' hl7 hd7 => ?_
            refine s_aug (a := ((k + 1 : Nat) : Int)) (b := 1) rfl ev_c fun H8' e8' => ⟨Ex.mut (ex4.trans e7') np |>.trans e8', rfl, zs ++ [v], e8' _ _ upd_same, ?_⟩
            have e : (pre ++ (List.range (k + 1)).map fun k => (row ++ [k + 1], left - (k + 1) * c)).map dQ = (pre ++ (List.range k).map fun k => (row ++ [k + 1], left - (k + 1) * c)).map dQ ++ [dQ (row ++ [k + 1], left - (k + 1) * c)] := by
              rw [List.range_succ]
              simp
            rw [e]
            exact hd7.mono e8'
          · have hk : ¬ k < N := of_decide_eq_false hb
            have : k = N := by omega
            subst this
            refine ⟨ex3.trans e4, ⟨_, _, _, rfl⟩, zs, e4 _ _ hzs, ?_⟩
            rw [hfull, hs1]
            exact hzd.mono e4
        · obtain ⟨ex2, ⟨z8, z9, z10, rfl⟩, ys, hys, hds⟩ := hp2
          rw [lb, List.take_length, ← hnext] at hds
          refine s_asgD (ed_var rfl (.lst hys hds)) fun v H9 e9 hv9 => ⟨(ex6.trans ex2).trans e9, v, _, _, _, _, _, _, _, rfl, hv9⟩
      · obtain ⟨ex, vf, y4, y5, y6, y7, y8, y9, y10, rfl, hvf⟩ := hp
        refine s_retD (d := .list ((gapsM cs n).map dT)) (ed_m ?_) fun v H6 e6 hv => q v H6 ((exH.trans ex).trans e6) hv
        have e : (gapsM cs n).map dT = ((stageG cs n cs.length).filter fun q => q.2 == 0).map fun q => dT q.1 := by
          rw [gapsM_stage, List.map_map]
          rfl
        rw [e]
        refine em_lcA dQ (stageG cs n cs.length) _ _ (ed_var rfl hvf) ?_ (fun q _ _ => lf_T q.1) fun p hp v H6 e6 hv R k => ?_
        · exact Nat.le_trans (stage_bound cs n cs.length (Nat.le_refl _)) (by omega)
        · obtain ⟨T, vr, vl, rfl, hT, hvr, hvl⟩ := hv.pair
          cases hvl
          refine g_pair rfl hT (k _ rfl (et_is (et_test (ev_eqI (ev_var rfl) ev_c)) ?_) fun _ => ed_var rfl hvr)
          by_cases h : p.2 = 0
          · rw [h]; rfl
          · rw [decide_eq_false (by omega)]
            exact (beq_eq_false_iff_ne.mpr h).symm
end
end K31

set_option maxRecDepth 100000
set_option maxHeartbeats 8000000
namespace K31
open PySem PySem.Spec PyProof.Rows L2 Evl StX
section
variable {P : Program} {w : World} {K : PySem.W.Frag} {mg : Str → Option Value} {base : Heap}
/-! ### _law_ends -/
theorem scLEnds : FnScope ["_law_word_here", "_law_found", "_law_at"] ["_law_word_here"] (defScope sLEnds) := ⟨rfl, rfl, rfl, by decide +kernel, rfl, by decide +kernel, by decide +kernel⟩
theorem c_lends (D : Dfn K mg "_law_ends" sLEnds ["_law_word_here"]) (Y : Nms mg) : Cal P w K mg base 1 "_law_ends" ["_law_word_here"] (SpF preRuns) := by
  refine cal_mk D scLEnds (fun ds d h => by obtain ⟨x, rfl, _⟩ := h; rfl) fun f cdv A outer s H vs ds d Q E hr hv hp q => ?_
  obtain ⟨x, rfl, hx, rfl⟩ := hp
  cases hv with
  | cons v0 hv =>
    cases hv
    cases v0
    refine ⟨_, pss_cons (ps_set (i := 1) scLEnds.nd rfl (.inl rfl) (pe_lst pa_nil))
      (pss_cons (ps_for PassesOwn.never rfl (pi_range1 (by rfl) Y.range (pa_cons (pe_callB call_len (by rfl) Y.len PySem.boot_len (pa_cons (pv 0) pa_nil)) pa_nil)) (pg_name (i := 2) scLEnds.nd rfl (.inl rfl))
        (pss_one (ps_if (PW.pt (pw_or (pt_cmpR op_eq (pe_op op_add (pv 2) pe_int) (pe_callB call_len (by rfl) Y.len PySem.boot_len (pa_cons (pv 0) pa_nil)) (nomark _))
            (pw_or1 (pt_cmpR op_ne (pe_ix ix_str (pv 0) (pe_op op_add (pv 2) pe_int) (fun _ _ => rfl)) (pe_ix ix_str (pv 0) (pv 2) (fun _ _ => rfl)) (nomark _)))))
          (pss_one (ps_expr (pe_bm PySem.F.plainAttrs_list PySem.F.slot_list_append PySem.F.type_list_append mt_append (pv 1) (pa_cons (pe_tup (pa_cons (pe_ix ix_str (pv 0) (pv 2) (fun _ _ => rfl))
            (pa_cons (pe_m1 PySem.F.slot_str_count PySem.F.type_str_count mt_count (pe_slice sl_str (pv 0) po_none (po_some (pe_op op_add (pv 2) pe_int))) (pe_ix ix_str (pv 0) (pv 2) (fun _ _ => rfl))) pa_nil))) pa_nil)))) pss_nil)))
      (pss_one (ps_ret (pv 1)))), ?_⟩
    have hxl := hx.2
    refine q_asgM (ds := []) (em_lst ea_D (by decide)) fun p xs H1 np e1 hp hxs => ?_
    cases hxs
    refine q_forR1 (j := 2) (n := ((x.length : Nat) : Int)) (ea_cons (ev_lenW (ev_var rfl) (by omega)) ea_nil) (by omega) (fun i σ' H' => Ex H H' ∧ (∃ y, σ' = [some (.str (wd x)), some (.ref p), y]) ∧ ∃ ys fl, H' p = some (.lst ys) ∧ DsAll H' ys (fl.map dR) ∧ EndInv x i fl)
      (fun H2 e2 => ⟨e1.trans e2, ⟨none, rfl⟩, [], [], e2 _ _ hp, .nil, end_start x⟩) (fun i σ' H' hi hp => ?_) (fun σ' H' hp => ?_)
    · obtain ⟨ex, ⟨y, rfl⟩, ys, fl, hys, hds, inv⟩ := hp
      have il : i < x.length := by omega
      have hc : x[i]? = some x[i] := List.getElem?_eq_getElem il
      generalize x[i] = c at hc
      have fl40 := end_len inv
      have e1c : ∀ H3, Ev (tOp rIxS (tVar 0) (tVar 2)) [some (.str (wd x)), some (.ref p), some (.int (i : Int))] H3 (.str (wd [c])) := fun H3 => ev_ixW (j := i) (ev_var rfl) (ev_var rfl) (by omega) hc
      have etup : ∀ H3, EvD (tTup (tCons (tOp rIxS (tVar 0) (tVar 2)) (tCons (tM1 rCountT (tSl rSlS (tVar 0) tNoPart (tPart (tOp (rI0 fun i j => .int (i + j)) (tVar 2) (tC (.int 1))))) (tOp rIxS (tVar 0) (tVar 2))) tNil))) [some (.str (wd x)), some (.ref p), some (.int (i : Int))] H3 (dR (c, (x.take (i + 1)).count c)) := fun H3 =>
        ed_tup (ea_Dc (ed_str (e1c H3)) (ea_Dc (ed_I (ev_countT (ev_slW (k := i + 1) (ev_var rfl) (eo_some (ev_is (ev_I2 (i := (i : Int)) (j := 1) (ev_var rfl) ev_c) rfl)) (by omega)) (e1c H3))) ea_D)) (by show 2 ≤ 100000; decide)
      have lfq : LF (dR (c, (x.take (i + 1)).count c)) := lf_R (L := [(c, (x.take (i + 1)).count c)]) _ List.mem_cons_self
      have app : ∀ H3, Ex H' H3 → EndInv x (i + 1) (fl ++ [(c, (x.take (i + 1)).count c)]) → ∀ (D : Ends), (∀ σ2 H2, (Ex H H2 ∧ (∃ y, σ2 = [some (.str (wd x)), some (.ref p), y]) ∧ ∃ ys fl, H2 p = some (.lst ys) ∧ DsAll H2 ys (fl.map dR) ∧ EndInv x (i + 1) fl) → D.nx σ2 H2) →
          tDrop (tBM K "list" rAppend (tVar 1) (tCons (tTup (tCons (tOp rIxS (tVar 0) (tVar 2)) (tCons (tM1 rCountT (tSl rSlS (tVar 0) tNoPart (tPart (tOp (rI0 fun i j => .int (i + j)) (tVar 2) (tC (.int 1))))) (tOp rIxS (tVar 0) (tVar 2))) tNil))) tNil)) D [some (.str (wd x)), some (.ref p), some (.int (i : Int))] H3 := fun H3 e3 hinv D hD =>
        s_appD (e3 _ _ hys) (hds.mono e3) lf_R (ev_var rfl) (etup H3) lfq (by rw [List.length_map]; omega) fun v H4 e4 hl4 hd4 => hD _ _ ⟨Ex.mut ((ex.trans e3).trans e4) np, ⟨_, rfl⟩, _, _, upd_same, by
          rw [List.map_append]
          exact hd4, hinv⟩
      by_cases hlast : i + 1 = x.length
      · refine s_when (b := true) (et_or (a := true) (b := true) (et_test (ev_is (ev_eqI (ev_I2 (ev_var rfl) ev_c) (ev_lenW (ev_var rfl) (by omega))) ?_)) (fun z => absurd z (by decide))) (fun _ H3 e3 => app H3 e3 (end_yes inv hc (.inl hlast)) _ fun _ _ h => h) (fun z => absurd z (by decide))
        rw [decide_eq_true (by omega)]
      · have hd : x[i + 1]? = some x[i + 1] := List.getElem?_eq_getElem (by omega)
        generalize x[i + 1]'(by omega) = d at hd
        refine s_when (b := false || !decide ([d] = [c])) (et_or (a := false) (et_test (ev_is (ev_eqI (ev_I2 (ev_var rfl) ev_c) (ev_lenW (ev_var rfl) (by omega))) ?_)) (fun _ => et_test (ev_neS (ev_ixW (j := i + 1) (ev_var rfl) (ev_is (ev_I2 (i := (i : Int)) (j := 1) (ev_var rfl) ev_c) rfl) (by omega) hd) (e1c _)))) (fun hb H3 e3 => ?_) (fun hb H3 e3 => ?_)
        · rw [decide_eq_false (by omega)]
        · have hdc : d ≠ c := fun e => by
            subst e
            simp at hb
          exact app H3 e3 (end_yes inv hc (.inr ⟨d, hd, hdc⟩)) _ fun _ _ h => h
        · have hdc : d = c := by simpa using hb
          subst hdc
          exact ⟨ex.trans e3, ⟨_, rfl⟩, ys, fl, e3 _ _ hys, hds.mono e3, end_no inv hc hd⟩
    · obtain ⟨ex, ⟨y, rfl⟩, ys, fl, hys, hds, inv⟩ := hp
      rw [Int.toNat_natCast] at inv
      have e := end_end inv
      subst e
      exact s_retD (ed_var rfl (.lst hys hds)) fun v H2 e2 hv => q v H2 (ex.trans e2) hv
/-! ### _law_marks, _law_core -/
theorem scLMarks : FnScope ["_law_word_here", "_law_letter", "_law_count"] ["_law_word_here"] (defScope sLMarks) := ⟨rfl, rfl, rfl, by decide +kernel, rfl, by decide +kernel, by decide +kernel⟩
theorem c_lmarks (D : Dfn K mg "_law_marks" sLMarks ["_law_word_here"]) (Y : Nms mg) (C : Cal P w K mg base 1 "_law_ends" ["_law_word_here"] (SpF preRuns)) : Cal P w K mg base 2 "_law_marks" ["_law_word_here"] (SpF preMarks) := by
  refine cal_mk D scLMarks (fun ds d h => by obtain ⟨x, rfl, _⟩ := h; rfl) fun f cdv A outer s H vs ds d Q E hr hv hp q => ?_
  obtain ⟨x, rfl, hx, rfl⟩ := hp
  cases hv with
  | cons v0 hv =>
    cases hv
    cases v0
    refine ⟨_, pss_one (ps_ret (pe_callB (cr_sortedSet rfl) (by rfl) Y.sorted (by decide +kernel) (pa_cons (pe_callTy (cr_setL rfl) (by rfl) Y.set (by decide +kernel) (pa_cons (pe_op op_cat (pe_lst (pa_cons pe_int pa_nil))
      (pe_lc (own := [("_law_letter", 1), ("_law_count", 2)]) (g := gTup K 2 (gCons (gName 1) (gCons (gName 2) gNil))) rfl scLMarks.nd (pi_list (pe_cal C hr (by rfl) (pa_cons (pv 0) pa_nil))) (blkOk_by (N := ["_law_word_here", "_law_letter", "_law_count"]) (sc := defScope sLMarks) (by decide +kernel)) (fun _ _ _ _ _ => pg_tup rfl (pgs_cons (pg_name (i := 1) scLMarks.nd rfl (.inl rfl) (.inr rfl)) (pgs_cons (pg_name (i := 2) scLMarks.nd rfl (.inl rfl) (.inr rfl)) pgs_nil)))
        (fun _ _ _ _ _ => pts_nil) (fun _ _ _ _ _ => pv 2))) pa_nil)) pa_nil))), ?_⟩
    have el := ends_len' x
    have hxl := hx.2
    refine s_retD (ed_m (em_sortSet (ns := 0 :: (ends x).map (·.2)) (ms := marksL (ends x)) ?_ ?_ (marks_lt _) fun k => ?_)) q
    · have e : (0 :: (ends x).map (·.2)).map dI = [dI 0] ++ ((ends x).filter (fun _ => true)).map fun q => dI q.2 := by
        rw [filter_yes, List.map_cons, List.map_map]
        rfl
      rw [e]
      refine em_cat (ed_m (em_lst (ea_Dc (ed_int ev_c) ea_D) (by show 1 ≤ 100000; decide))) (ed_m (em_lcP (fun _ => true) _ (ed_call (ea_Dc (ed_str (ev_var rfl)) ea_D) ⟨x, rfl, hx, rfl⟩) (by omega) (fun _ _ _ => .int _) (fun _ _ => rfl) fun q hq H2 e2 => ⟨et_yes, fun _ => ed_int (ev_var rfl)⟩)) ?_
      rw [List.length_map, filter_yes]
      simp only [List.length_singleton]
      omega
    · simp only [List.length_cons, List.length_map]
      omega
    · rw [marks_mem, List.mem_cons]
/-! ### _law_made -/
theorem scLMade : FnScope ["_law_ends_here", "_law_found", "_law_known", "_law_letter", "_law_count"] ["_law_ends_here"] (defScope sLMade) := ⟨rfl, rfl, rfl, by decide +kernel, rfl, by decide +kernel, by decide +kernel⟩
theorem c_lmade (D : Dfn K mg "_law_made" sLMade ["_law_ends_here"]) : Cal P w K mg base 1 "_law_made" ["_law_ends_here"] (SpF preWordOf) := by
  refine cal_mk D scLMade (fun ds d h => by obtain ⟨x, rfl, _⟩ := h; rfl) fun f cdv A outer s H vs ds d Q E hr hv hp q => ?_
  obtain ⟨L, rfl, hL, hB, rfl⟩ := hp
  have hu := hu_of hr
  cases hv with
  | cons v0 hv =>
    cases hv
    obtain ⟨a, xa, rfl, ha, hxa⟩ := v0.inj_list
    refine ⟨_, pss_cons (ps_par (i := 1) (j := 2) rfl scLMade.nd rfl rfl (by decide) rfl rfl (pa_cons pe_str (pa_cons pe_dnewK pa_nil)) (by rfl))
      (pss_cons (ps_for PassesOwn.never rfl (pi_list (pv 0)) (pg_tup rfl (pgs_cons (pg_name (i := 3) scLMade.nd rfl (.inl rfl)) (pgs_cons (pg_name (i := 4) scLMade.nd rfl (.inl rfl)) pgs_nil)))
        (pss_cons (ps_set (i := 1) scLMade.nd rfl (.inl rfl) (pe_op op_add_str (pv 1) (pe_op op_mulS (pv 3) (pe_op op_sub (pv 4) (pe_dget2 hu (pv 2) (pv 3) pe_int ⟨rfl, rfl, rfl, rfl⟩)))))
        (pss_one (ps_dput hu (pv 2) (pv 3) (pv 4) rfl))))
      (pss_one (ps_ret (pv 1)))), ?_⟩
    refine fun p1 np1 => ⟨_, _, rfl, ?_⟩
    have x0 : Ex H (upd H p1 (.dK [])) := Ex.new np1
    have ll : L.length = xa.length := by
      have := hxa.length
      rw [List.length_map] at this
      exact this.symm
    have mlen : ∀ i, (made (L.take i)).length ≤ 100000 := fun i => by
      have h1 := made_len (L.take i) (fun _ => 0) 1000 fun q hq => hB q (List.mem_of_mem_take hq)
      have h2 : (L.take i).length ≤ 100 := Nat.le_trans (by rw [List.length_take]; exact Nat.min_le_right _ _) hL
      show (madeAux (fun _ => 0) (L.take i)).length ≤ 100000
      omega
    refine q_forA (a := a) (xs := xa) (ev_var rfl) (x0 _ _ ha) (fun i σ' H' => Ex H H' ∧ (∃ y z, σ' = [some (.ref a), some (.str (wd (made (L.take i)))), some (.ref p1), y, z]) ∧ ∃ kvs, H' p1 = some (.dK kvs) ∧ KD kvs (lastK (fun _ => 0) (L.take i)) ∧ kvs.length ≤ i)
      (fun H1 e1 => ⟨x0.trans e1, ⟨none, none, rfl⟩, [], e1 _ _ upd_same, fun c => rfl, Nat.zero_le _⟩) (fun i σ' H' hp => hp.1 _ _ ha) (fun i v σ' H' hi hp => ?_) (fun σ' H' hp => ?_)
    · obtain ⟨ex, ⟨y, z, rfl⟩, kvs, hk, kd, kl⟩ := hp
      obtain ⟨d, hd1, hd2⟩ := (hxa.mono ex).get hi
      have il : i < L.length := by
        have := (List.getElem?_eq_some_iff.mp hi).1
        omega
      obtain ⟨q0, hq0⟩ : ∃ q0, L[i]? = some q0 := ⟨L[i], List.getElem?_eq_getElem il⟩
      rw [List.getElem?_map, hq0] at hd1
      have : dR q0 = d := Option.some.inj hd1
      subst this
      obtain ⟨c, k⟩ := q0
      obtain ⟨b, y', z', rfl, hb, hy, hz⟩ := hd2.pair
      cases hy
      cases hz
      have hkB : k ≤ 1000 := hB (c, k) (List.mem_of_getElem? hq0)
      have lB := lastK_bound (L := L.take i) (B := 1000) (fun _ => 0) (fun _ => Nat.zero_le _) (fun q hq => hB q (List.mem_of_mem_take hq)) c
      have tk : L.take (i + 1) = L.take i ++ [(c, k)] := by
        rw [List.take_add_one, hq0]
        rfl
      have hN : -1000000 ≤ ((k : Nat) : Int) - ((lastK (fun _ => 0) (L.take i) c : Nat) : Int) ∧ ((k : Nat) : Int) - ((lastK (fun _ => 0) (L.take i) c : Nat) : Int) ≤ 1000000 := by omega
      have eN : (((k : Nat) : Int) - ((lastK (fun _ => 0) (L.take i) c : Nat) : Int)).toNat = k - lastK (fun _ => 0) (L.take i) c := by omega
      have mi := mlen i
      refine g_pair rfl hb ?_
      refine q_asg (v := .str (wd (made (L.take (i + 1))))) (ev_is (ev_addT (a := made (L.take i)) (b := List.replicate (k - lastK (fun _ => 0) (L.take i) c) c) (ev_var rfl) (ev_is (ev_mulS (c := c) (ev_var rfl) (ev_I2 (ev_var rfl) (ev_get hk kd (ev_var rfl) (ev_var rfl))) hN) ?_) ?_) ?_) fun H1 e1 => ?_
      · show V.str (wd (List.replicate (((k : Nat) : Int) - ((lastK (fun _ => 0) (L.take i) c : Nat) : Int)).toNat c)) = _
        rw [eN]
      · rw [List.length_replicate]
        omega
      · rw [tk]
        show V.str (wd (madeAux (fun _ => 0) (L.take i) ++ _)) = .str (wd (madeAux (fun _ => 0) (L.take i ++ [(c, k)])))
        rw [made_snoc]
      · refine s_dput (p := p1) (kvs := kvs) (z := wd [c]) (v := vI k) (e1 _ _ hk) (by omega) (ev_var rfl) (ev_var rfl) (ev_var rfl) fun H3 e3 => ?_
        refine ⟨Ex.mut ((ex.trans e1).trans e3) np1, ⟨_, _, rfl⟩, _, upd_same, fun z => ?_, Nat.le_trans (length_putK _ _ _) (by omega)⟩
        rw [kd.put c k z, tk, lastK_snoc]
        rfl
    · obtain ⟨ex, ⟨y, z, rfl⟩, kvs, hk, kd, kl⟩ := hp
      rw [← ll, List.take_length]
      exact s_retD (ed_str (ev_var rfl)) fun v H1 e1 hv => q v H1 (ex.trans e1) hv
theorem scLCore : FnScope ["_law_word_here", "_law_ranks", "_law_letter", "_law_count"] ["_law_word_here"] (defScope sLCore) := ⟨rfl, rfl, rfl, by decide +kernel, rfl, by decide +kernel, by decide +kernel⟩
theorem c_lcore (D : Dfn K mg "_law_core" sLCore ["_law_word_here"]) (Cm : Cal P w K mg base 2 "_law_marks" ["_law_word_here"] (SpF preMarks)) (Cr : Cal P w K mg base 1 "_law_ends" ["_law_word_here"] (SpF preRuns)) (Cw : Cal P w K mg base 1 "_law_made" ["_law_ends_here"] (SpF preWordOf)) :
    Cal P w K mg base 3 "_law_core" ["_law_word_here"] (SpF preCore) := by
  refine cal_mk D scLCore (fun ds d h => by obtain ⟨x, rfl, _⟩ := h; rfl) fun f cdv A outer s H vs ds d Q E hr hv hp q => ?_
  obtain ⟨x, rfl, hx, rfl⟩ := hp
  have hr1 := hr.mono (j := 1) (by decide)
  cases hv with
  | cons v0 hv =>
    cases hv
    cases v0
    refine ⟨_, pss_cons (ps_set (i := 1) scLCore.nd rfl (.inr rfl) (pe_cal Cm hr (by rfl) (pa_cons (pv 0) pa_nil)))
      (pss_one (ps_ret (pe_cal Cw hr1 (by rfl) (pa_cons (pe_lc (own := [("_law_letter", 2), ("_law_count", 3)]) (g := gTup K 2 (gCons (gName 2) (gCons (gName 3) gNil))) (te := tTup (tCons (tVar 2) (tCons (tBM K "list" (rIndex K) (tVar 1) (tCons (tVar 3) tNil)) tNil))) rfl scLCore.nd (pi_list (pe_cal Cr hr1 (by rfl) (pa_cons (pv 0) pa_nil))) (blkOk_by (N := ["_law_word_here", "_law_ranks", "_law_letter", "_law_count"]) (sc := defScope sLCore) (by decide +kernel))
        (fun _ _ _ _ _ => pg_tup rfl (pgs_cons (pg_name (i := 2) scLCore.nd rfl (.inl rfl) (.inr rfl)) (pgs_cons (pg_name (i := 3) scLCore.nd rfl (.inl rfl) (.inr rfl)) pgs_nil))) (fun _ _ _ _ _ => pts_nil)
        (fun _ _ _ _ _ => pe_tup (pa_cons (pv 2) (pa_cons (pe_bm PySem.F.plainAttrs_list PySem.F.slot_list_index PySem.F.type_list_index mt_index (pv 1) (pa_cons (pv 3) pa_nil)) pa_nil)))) pa_nil)))), ?_⟩
    refine q_asgD (d := .list ((marksL (ends x)).map dI)) (ed_call (ea_Dc (ed_str (ev_var rfl)) ea_D) ⟨x, rfl, hx, rfl⟩) fun v1 H1 e1 h1 => ?_
    have el := ends_len' x
    have hxl := hx.2
    refine s_retD (ed_call (ds := [.list ((ranks x).map dR)]) (ea_Dc (ed_m ?_) ea_D) ⟨ranks x, rfl, (rank_small hx).1, (rank_small hx).2, rfl⟩) fun v H2 e2 hv => q v H2 (e1.trans e2) hv
    have e : (ranks x).map dR = ((ends x).filter (fun _ => true)).map fun q => dR (q.1, ix (marksL (ends x)) q.2) := by
      rw [filter_yes]
      unfold ranks
      rw [List.map_map]
      rfl
    rw [e]
    refine em_lcP (fun _ => true) _ (ed_call (ea_Dc (ed_str (ev_var rfl)) ea_D) ⟨x, rfl, hx, rfl⟩) (by omega) (fun q _ _ => lf_R (L := [(q.1, ix (marksL (ends x)) q.2)]) _ List.mem_cons_self) (fun _ _ => rfl) fun p hp H2 e2 => ⟨et_yes, fun _ => ?_⟩
    exact ed_tup (ea_Dc (ed_str (ev_var rfl)) (ea_Dc (ed_int (ev_index (ed_var rfl (h1.mono e2)) (ev_var rfl) (marks_mem.2 (.inr (List.mem_map.mpr ⟨p, hp, rfl⟩))))) ea_D)) (by show 2 ≤ 100000; decide)
end
end K31

set_option maxRecDepth 100000
set_option maxHeartbeats 8000000
namespace K31
open PySem PySem.Spec PyProof.Rows L2 Evl StX
section
variable {P : Program} {w : World} {K : PySem.W.Frag} {mg : Str → Option Value} {base : Heap}
/-! ### _law_gaps -/
def preLGaps : List PyData → PyData → Prop := fun ds d => ∃ x, ds = [.str (wd x)] ∧ Wd x ∧ d = .list ((List.range ((marksL (ends x)).length - 1)).map fun l => .int (((marksL (ends x)).getD (l + 1) 0 : Nat) - ((marksL (ends x)).getD l 0 : Nat)))
theorem scLGaps : FnScope ["_law_word_here", "_law_ranks", "_law_at"] ["_law_word_here"] (defScope sLGaps) := ⟨rfl, rfl, rfl, by decide +kernel, rfl, by decide +kernel, by decide +kernel⟩
theorem c_lgaps (D : Dfn K mg "_law_gaps" sLGaps ["_law_word_here"]) (Y : Nms mg) (Cm : Cal P w K mg base 2 "_law_marks" ["_law_word_here"] (SpF preMarks)) : Cal P w K mg base 3 "_law_gaps" ["_law_word_here"] (SpF preLGaps) := by
  refine cal_mk D scLGaps (fun ds d h => by obtain ⟨x, rfl, _⟩ := h; rfl) fun f cdv A outer s H vs ds d Q E hr hv hp q => ?_
  obtain ⟨x, rfl, hx, rfl⟩ := hp
  cases hv with
  | cons v0 hv =>
    cases hv
    cases v0
    refine ⟨_, pss_cons (ps_set (i := 1) scLGaps.nd rfl (.inr rfl) (pe_cal Cm hr (by rfl) (pa_cons (pv 0) pa_nil)))
      (pss_one (ps_ret (pe_lc (own := [("_law_at", 2)]) (g := gName 2) (te := tOp (rI0 fun i j => .int (i - j)) (tOp (rIxL K) (tVar 1) (tVar 2)) (tOp (rIxL K) (tVar 1) (tOp (rI0 fun i j => .int (i - j)) (tVar 2) (tC (.int 1))))) rfl scLGaps.nd (pi_range2 (by rfl) Y.range (pa_cons pe_int (pa_cons (pe_callB call_len (by rfl) Y.len PySem.boot_len (pa_cons (pv 1) pa_nil)) pa_nil)))
        (blkOk_by (N := ["_law_word_here", "_law_ranks", "_law_at"]) (sc := defScope sLGaps) (by decide +kernel)) (fun _ _ _ _ _ => pg_name (i := 2) scLGaps.nd rfl (.inl rfl) (.inr rfl)) (fun _ _ _ _ _ => pts_nil)
        (fun _ _ _ _ _ => pe_op op_sub (pe_ix ix_list (pv 1) (pv 2) (fun _ _ => rfl)) (pe_ix ix_list (pv 1) (pe_op op_sub (pv 2) pe_int) (fun _ _ => rfl)))))), ?_⟩
    refine q_asgD (d := .list ((marksL (ends x)).map dI)) (ed_call (ea_Dc (ed_str (ev_var rfl)) ea_D) ⟨x, rfl, hx, rfl⟩) fun v1 H1 e1 h1 => ?_
    have small : (marksL (ends x)).length ≤ 10000 := by
      have h1 := List.length_filter_le (fun k => k == 0 || ((ends x).map fun q => q.2).contains k) (List.range (topK (ends x) + 1))
      rw [List.length_range] at h1
      have h2 : ∀ L : List (Nat × Nat), (∀ q ∈ L, q.2 ≤ 1000) → topK L ≤ 1000 := by
        intro L
        induction L with
        | nil => exact fun _ => Nat.zero_le _
        | cons q L ih =>
          intro h
          have a := h q List.mem_cons_self
          have b := ih fun p hp => h p (List.mem_cons_of_mem _ hp)
          show max q.2 (topK L) ≤ 1000
          omega
      have h3 := h2 (ends x) fun q hq => by
        have a := ends_count x [] q hq
        have b := hx.2
        simp only [List.length_nil] at a
        omega
      unfold marksL
      omega
    generalize marksL (ends x) = M at h1 small q
    refine s_retD (ed_m ?_) fun v H2 e2 hv => q v H2 (e1.trans e2) hv
    have e : ((List.range (M.length - 1)).map fun l => PyData.int ((M.getD (l + 1) 0 : Nat) - (M.getD l 0 : Nat))) = ((List.range (M.length - 1)).filter fun _ => true).map fun l => PyData.int ((M.getD (l + 1) 0 : Nat) - (M.getD l 0 : Nat)) := by rw [filter_yes]
    rw [e]
    refine em_lcR _ _ (fun _ => true) _ (rg2 (lo := 1) (n := M.length) (ea_cons ev_c (ea_cons (by
      have := ev_lenXL (K := K) (ed_var (σ := [some (.str (wd x)), some v1, none]) (i := 1) rfl h1)
      rw [List.length_map] at this
      exact this) ea_nil)) (by omega)) (by omega) (fun _ _ _ => .int _) fun l hl H2 e2 R k => g_name (k _ rfl et_yes fun _ => ?_)
    have hs : ∀ σ2 : L2.St, σ2[2]? = some (some (.int (((1 : Nat) : Int) + (l : Int)))) → Ev (tOp (rI0 fun i j => .int (i - j)) (tVar 2) (tC (.int 1))) σ2 H2 (.int (l : Int)) := fun σ2 h => ev_is (ev_I2 (ev_var h) ev_c) (congrArg V.int (by omega))
    have hs2 : ∀ σ2 : L2.St, σ2[2]? = some (some (.int (((1 : Nat) : Int) + (l : Int)))) → Ev (tVar 2) σ2 H2 (.int ((l + 1 : Nat) : Int)) := fun σ2 h => ev_is (ev_var h) (congrArg V.int (by omega))
    exact ed_int (ev_I2 (g := fun i j => .int (i - j)) (ev_int (ed_ixL (ds := M.map dI) (ed_var rfl (h1.mono e2)) (hs2 _ rfl) (atI_nat (getD_map_vI (by omega))))) (ev_int (ed_ixL (ds := M.map dI) (ed_var rfl (h1.mono e2)) (hs _ rfl) (atI_nat (getD_map_vI (by omega))))))
/-! ### _law_grown -/
def preGrown : List PyData → PyData → Prop := fun ds d => ∃ x g, ds = [.str (wd (core x)), dT g] ∧ Wd x ∧ g.length = many x ∧ (∀ y ∈ g, 1 ≤ y ∧ y ≤ 20) ∧ d = .str (wd (grown x g))
theorem scLGrown : FnScope ["_law_bare", "_law_widths", "_law_sums", "_law_one", "_law_letter", "_law_rank"] ["_law_bare", "_law_widths"] (defScope sLGrown) := ⟨rfl, rfl, rfl, by decide +kernel, rfl, by decide +kernel, by decide +kernel⟩
theorem sum_bound : ∀ (g : List Nat), (∀ y ∈ g, y ≤ 20) → g.sum ≤ 20 * g.length
  | [], _ => by simp
  | y :: g, h => by
    have a := h y List.mem_cons_self
    have b := sum_bound g fun z hz => h z (List.mem_cons_of_mem _ hz)
    rw [List.sum_cons, List.length_cons]
    omega
theorem sumTo_bound (g : List Nat) (h : ∀ y ∈ g, y ≤ 20) (n : Nat) : sumTo g n ≤ 20 * g.length := by
  have a := sum_bound (g.take n) fun y hy => h y (List.mem_of_mem_take hy)
  have b : (g.take n).length ≤ g.length := by
    rw [List.length_take]
    exact Nat.min_le_right _ _
  unfold sumTo
  omega
theorem many_le {x : List Nat} (hx : Wd x) : many x ≤ 40 := by
  rw [← lev_core hx.1]
  have h1 := lev_le_len (core x)
  have h2 := core_len hx.1
  have h3 := hx.2
  omega
theorem c_lgrown (D : Dfn K mg "_law_grown" sLGrown ["_law_bare", "_law_widths"]) (Ce : Cal P w K mg base 1 "_law_ends" ["_law_word_here"] (SpF preRuns)) (Cw : Cal P w K mg base 1 "_law_made" ["_law_ends_here"] (SpF preWordOf)) :
    Cal P w K mg base 2 "_law_grown" ["_law_bare", "_law_widths"] (SpF preGrown) := by
  refine cal_mk D scLGrown (fun ds d h => by obtain ⟨x, g, rfl, _⟩ := h; rfl) fun f cdv A outer s H vs ds d Q E hr hv hp q => ?_
  obtain ⟨x, g, rfl, hx, hg, hg20, rfl⟩ := hp
  cases hv with
  | cons v0 hv =>
    cases hv with
    | cons v1 hv =>
      cases hv
      cases v0
      obtain ⟨a, xa, rfl, ha, hxa⟩ := Ds.inj_tup v1
      have exa := dsAll_I hxa
      subst exa
      refine ⟨_, pss_cons (ps_set (i := 2) scLGrown.nd rfl (.inr rfl) (pe_lst (pa_cons pe_int pa_nil)))
        (pss_cons (ps_for PassesOwn.never rfl (pi_tup (pv 1)) (pg_name (i := 3) scLGrown.nd rfl (.inl rfl))
          (pss_one (ps_expr (pe_bm PySem.F.plainAttrs_list PySem.F.slot_list_append PySem.F.type_list_append mt_append (pv 2) (pa_cons (pe_op op_add (pe_ix ix_list (pv 2) (pe_un un_neg pe_int) (fun _ _ => rfl)) (pv 3)) pa_nil)))))
        (pss_one (ps_ret (pe_cal Cw hr (by rfl) (pa_cons (pe_lc (own := [("_law_letter", 4), ("_law_rank", 5)]) (g := gTup K 2 (gCons (gName 4) (gCons (gName 5) gNil))) (te := tTup (tCons (tVar 4) (tCons (tOp (rIxL K) (tVar 2) (tVar 5)) tNil))) rfl scLGrown.nd (pi_list (pe_cal Ce hr (by rfl) (pa_cons (pv 0) pa_nil))) (blkOk_by (N := ["_law_bare", "_law_widths", "_law_sums", "_law_one", "_law_letter", "_law_rank"]) (sc := defScope sLGrown) (by decide +kernel))
          (fun _ _ _ _ _ => pg_tup rfl (pgs_cons (pg_name (i := 4) scLGrown.nd rfl (.inl rfl) (.inr rfl)) (pgs_cons (pg_name (i := 5) scLGrown.nd rfl (.inl rfl) (.inr rfl)) pgs_nil))) (fun _ _ _ _ _ => pts_nil)
          (fun _ _ _ _ _ => pe_tup (pa_cons (pv 4) (pa_cons (pe_ix ix_list (pv 2) (pv 5) (fun _ _ => rfl)) pa_nil)))) pa_nil))))), ?_⟩
      have gl := many_le hx
      refine q_asgM (ds := [dI 0]) (em_lst (ea_Dc (ed_int ev_c) ea_D) (by show 1 ≤ 100000; decide)) fun p xs H1 np e1 hp hxs => ?_
      refine q_forT (a := a) (xs := g.map vI) (ev_var rfl) (SqT.of (e1 _ _ ha)) (fun i σ' H' => Ex H H' ∧ (∃ y, σ' = [some (.str (wd (core x))), some (.ref a), some (.ref p), y, none, none]) ∧ ∃ ys, H' p = some (.lst ys) ∧ DsAll H' ys (((List.range (i + 1)).map (sumTo g)).map dI))
        (fun H2 e2 => ⟨e1.trans e2, ⟨none, rfl⟩, xs, e2 _ _ hp, hxs.mono e2⟩) (fun i σ' H' _ hp => SqT.of (hp.1 _ _ ha)) (fun i v σ' H' hi hp => ?_) (fun σ' H' hp => ?_)
      · obtain ⟨ex, ⟨y, rfl⟩, ys, hys, hds⟩ := hp
        rw [List.getElem?_map] at hi
        cases hgi : g[i]? with
        | none => rw [hgi] at hi; cases hi
        | some c =>
          rw [hgi] at hi
          have ev : vI c = v := Option.some.inj hi
          subst ev
          have il : i < g.length := (List.getElem?_eq_some_iff.mp hgi).1
          have eg : g[i] = c := (List.getElem?_eq_some_iff.mp hgi).2
          refine g_name (s_appD (d := dI (sumTo g (i + 1))) hys hds lf_I (ev_var rfl) (ed_I (ev_is (ev_I2 (i := ((sumTo g i : Nat) : Int)) (ev_int (ed_ixL (ds := ((List.range (i + 1)).map (sumTo g)).map dI) (ed_var rfl (.lst hys hds)) (ev_neg ev_c) ?_)) (ev_var rfl)) ?_)) (.int _) (by rw [List.length_map, List.length_map, List.length_range]; omega) fun v H2 e2 hl2 hd2 => ?_)
          · rw [List.range_succ, List.map_append, List.map_append]
            exact atI_last' _ _
          · rw [sumTo_succ il, eg]
            rfl
          · refine ⟨Ex.mut (ex.trans e2) np, ⟨_, rfl⟩, _, upd_same, ?_⟩
            rw [List.range_succ (n := i + 1), List.map_append, List.map_append]
            exact hd2
      · obtain ⟨ex, ⟨y, rfl⟩, ys, hys, hds⟩ := hp
        rw [List.length_map] at hds
        have wc := core_wd hx
        have lr : (ends (core x)).length ≤ 40 := Nat.le_trans (ends_len' _) wc.2
        have rb : ∀ r ∈ ends (core x), r.2 ≤ g.length := fun r hr => by
          rw [ends_core] at hr
          have := rank_lt hr
          rw [hg]
          show _ ≤ (marksL (ends x)).length - 1
          omega
        refine s_retD (d := .str (wd (grown x g))) (ed_call (ds := [.list (((ends (core x)).map fun q : Nat × Nat => (q.1, sumTo g q.2)).map dR)]) (ea_Dc (ed_m ?_) ea_D) ⟨(ends (core x)).map fun q : Nat × Nat => (q.1, sumTo g q.2), rfl, by rw [List.length_map]; omega, fun r hr => ?_, rfl⟩) fun v H2 e2 hv => q v H2 (ex.trans e2) hv
        · have e : (((ends (core x)).map fun q => (q.1, sumTo g q.2)).map dR) = ((ends (core x)).filter (fun _ => true)).map fun q => dR (q.1, sumTo g q.2) := by
            rw [filter_yes, List.map_map]
            rfl
          rw [e]
          refine em_lcP (fun _ => true) _ (ed_call (ea_Dc (ed_str (ev_var rfl)) ea_D) ⟨core x, rfl, wc, rfl⟩) (by omega) (fun q _ _ => lf_R (L := [(q.1, sumTo g q.2)]) _ List.mem_cons_self) (fun _ _ => rfl) fun r hr H2 e2 => ⟨et_yes, fun _ => ?_⟩
          have hrb := rb r hr
          refine ed_tup (ea_Dc (ed_str (ev_var rfl)) (ea_Dc (ed_ixL (i := (r.2 : Int)) (ds := ((List.range (g.length + 1)).map (sumTo g)).map dI) (ed_var rfl (.lst (e2 _ _ hys) (hds.mono e2))) (ev_var rfl) (atI_nat ?_)) ea_D)) (by show 2 ≤ 100000; decide)
          rw [List.getElem?_map, List.getElem?_map, List.getElem?_range (by omega)]
          rfl
        · obtain ⟨r0, _, rfl⟩ := List.mem_map.mp hr
          have := sumTo_bound g (fun y hy => (hg20 y hy).2) r0.2
          show sumTo g r0.2 ≤ 1000
          omega
/-! ### _law_rows, _law_power -/
def preRows : List PyData → PyData → Prop := fun ds d => ∃ top m, ds = [.list (List.replicate m (dI top))] ∧ 1 ≤ top ∧ top ≤ 100 ∧ m ≤ 100 ∧ top ^ m ≤ 20000 ∧ d = .list ((rowsM top m).map dT)
theorem scLRows : FnScope ["_law_most", "_law_found", "_law_top", "_law_later", "_law_row", "_law_one"] ["_law_most"] (defScope sLRows) := ⟨rfl, rfl, rfl, by decide +kernel, rfl, by decide +kernel, by decide +kernel⟩
theorem lf_Ts {L : List (List Nat)} : ∀ d ∈ L.map dT, LF d := fun d h => by
  obtain ⟨q, _, rfl⟩ := List.mem_map.mp h
  exact lf_T q
theorem ed_catT {σ : L2.St} {H : Hp} {ta tb : TE} {ds es : List PyData} (ha : EvD ta σ H (.tuple ds)) (hb : EvD tb σ H (.tuple es)) (hl : ds.length + es.length ≤ 100000) : EvD (tOp (rCatA K) ta tb) σ H (.tuple (ds ++ es)) := fun H1 a Q q =>
  ha H1 a _ fun v H2 a2 c => hb H2 (a.trans a2) _ fun w H3 a3 c3 => by
    have c := c.mono a3
    obtain ⟨p, xs, rfl, hp, hx⟩ := Ds.inj_tup c
    obtain ⟨p2, ys, rfl, hp2, hy⟩ := Ds.inj_tup c3
    refine ⟨p, p2, xs, ys, rfl, rfl, SqT.of hp, SqT.of hp2, ?_, fun hn => ?_, fun h1 hn => ?_, fun _ _ z hz => ?_⟩
    · rw [hx.length, hy.length]; exact sz_of hl
    · subst hn
      cases hx
      exact q _ _ (a2.trans a3) c3
    · subst hn
      cases hy
      rw [List.append_nil] at q
      exact q _ _ (a2.trans a3) c
    · exact q _ _ ((a2.trans a3).trans (Ex.new hz)) (.tup upd_same ((hx.mono (Ex.new hz)).app (hy.mono (Ex.new hz))))
theorem c_lrows (D : Dfn K mg "_law_rows" sLRows ["_law_most"]) (Y : Nms mg) : Cal P w K mg base 1 "_law_rows" ["_law_most"] (SpF preRows) := by
  refine cal_mk D scLRows (fun ds d h => by obtain ⟨x, g, rfl, _⟩ := h; rfl) fun f cdv A outer s H vs ds d Q E hr hv hp q => ?_
  obtain ⟨top, m, rfl, ht1, ht, hm, hpow, rfl⟩ := hp
  cases hv with
  | cons v0 hv =>
    cases hv
    have er : List.replicate m (dI top) = (List.replicate m top).map dI := by rw [List.map_replicate]
    rw [er] at v0
    obtain ⟨a, xa, rfl, ha, hxa⟩ := v0.inj_list
    have exa := dsAll_I hxa
    subst exa
    refine ⟨_, pss_cons (ps_set (i := 1) scLRows.nd rfl (.inl rfl) (pe_lst (pa_cons (pe_tup pa_nil) pa_nil)))
      (pss_cons (ps_for PassesOwn.never rfl (pi_list (pv 0)) (pg_name (i := 2) scLRows.nd rfl (.inl rfl))
        (pss_cons (ps_set (i := 3) scLRows.nd rfl (.inl rfl) (pe_lst pa_nil))
        (pss_cons (ps_for PassesOwn.never rfl (pi_list (pv 1)) (pg_name (i := 4) scLRows.nd rfl (.inr rfl))
          (pss_one (ps_set (i := 3) scLRows.nd rfl (.inl rfl) (pe_op op_cat (pv 3) (pe_lc (own := [("_law_one", 5)]) (g := gName 5) (te := tOp (rCatA K) (tVar 4) (tTup (tCons (tVar 5) tNil))) rfl scLRows.nd (pi_range2 (by rfl) Y.range (pa_cons pe_int (pa_cons (pe_op op_add (pv 2) pe_int) pa_nil)))
            (blkOk_by (N := ["_law_most", "_law_found", "_law_top", "_law_later", "_law_row", "_law_one"]) (sc := defScope sLRows) (by decide +kernel)) (fun _ _ _ _ _ => pg_name (i := 5) scLRows.nd rfl (.inl rfl) (.inr rfl)) (fun _ _ _ _ _ => pts_nil) (fun _ _ _ _ _ => pe_op op_catA (pv 4) (pe_tup (pa_cons (pv 5) pa_nil))))))))
        (pss_one (ps_set (i := 1) scLRows.nd rfl (.inl rfl) (pv 3))))))
      (pss_one (ps_ret (pv 1)))), ?_⟩
    refine q_asgD (d := .list ((rowsM top 0).map dT)) (ed_m (em_lst (ea_Dc (ed_tup ea_D (by show 0 ≤ 100000; decide)) ea_D) (by show 1 ≤ 100000; decide))) fun v1 H1 e1 h1 => ?_
    refine q_forA (a := a) (ev_var rfl) (e1 _ _ ha) (fun i σ' H' => i ≤ m ∧ Ex H H' ∧ ∃ vf y2 y3 y4, σ' = [some (.ref a), some vf, y2, y3, y4, none] ∧ Ds H' vf (.list ((rowsM top i).map dT)))
      (fun H2 e2 => ⟨Nat.zero_le _, e1.trans e2, v1, none, none, none, rfl, h1.mono e2⟩) (fun i σ' H' hp => hp.2.1 _ _ ha) (fun i v σ' H' hi hp => ?_) (fun σ' H' hp => ?_)
    · obtain ⟨him, ex, vf, y2, y3, y4, rfl, hvf⟩ := hp
      have il : i < m := by
        have := (List.getElem?_eq_some_iff.mp hi).1
        simpa using this
      have ev : vI top = v := by
        have := List.mem_of_getElem? hi
        rw [List.map_replicate] at this
        exact (List.mem_replicate.mp this).2.symm
      subst ev
      have hlen : (rowsM top (i + 1)).length ≤ 20000 := by
        rw [rowsM_len]
        exact Nat.le_trans (Nat.pow_le_pow_right ht1 il) hpow
      have hnext : rowsM top (i + 1) = (rowsM top i).flatMap fun row => (List.range top).map fun j => row ++ [j + 1] := rfl
      have hrl : ∀ g ∈ rowsM top i, g.length = i := fun g hg => (rowsM_mem top i g hg).1
      rw [hnext] at hlen
      generalize hst : rowsM top i = st at hvf hlen hrl hnext
      refine g_name (q_asgD (d := .list []) (ed_m (em_lst ea_D (by decide))) fun v3 H2 e2 h3 => ?_)
      have hvf2 := hvf.mono e2
      obtain ⟨b, xb, rfl, hb, hxb⟩ := hvf2.inj_list
      have lb : xb.length = st.length := by rw [hxb.length, List.length_map]
      refine q_forA (a := b) (xs := xb) (ev_var rfl) hb (fun j σ2 H3 => Ex H2 H3 ∧ ∃ vl y4, σ2 = [some (.ref a), some (.ref b), some (vI top), some vl, y4, none] ∧ Ds H3 vl (.list (((st.take j).flatMap fun row => (List.range top).map fun j => row ++ [j + 1]).map dT)))
        (fun H3 e3 => ⟨e3, v3, y4, rfl, h3.mono e3⟩) (fun j σ2 H3 hp2 => hp2.1 _ _ hb) (fun j v σ2 H3 hj hp2 => ?_) (fun σ2 H3 hp2 => ?_)
      · obtain ⟨ex2, vl, y4, rfl, hvl⟩ := hp2
        obtain ⟨dd, hd1, hd2⟩ := (hxb.mono ex2).get hj
        obtain ⟨row, hq0⟩ : ∃ q0, st[j]? = some q0 := by
          have := (List.getElem?_eq_some_iff.mp hj).1
          exact ⟨st[j]'(by omega), List.getElem?_eq_getElem (by omega)⟩
        rw [List.getElem?_map, hq0] at hd1
        have : dT row = dd := Option.some.inj hd1
        subst this
        have rl := hrl row (List.mem_of_getElem? hq0)
        have hfull := flat_take (fun row : List Nat => (List.range top).map fun j => row ++ [j + 1]) hq0
        have hle := flat_le (fun row : List Nat => (List.range top).map fun j => row ++ [j + 1]) st (j + 1)
        rw [hfull, List.length_append, List.length_map, List.length_range] at hle
        refine g_name (s_asgD (d := .list (((st.take (j + 1)).flatMap fun row => (List.range top).map fun j => row ++ [j + 1]).map dT)) (ed_m ?_) fun v5 H4 e4 h5 => ⟨ex2.trans e4, v5, _, rfl, h5⟩)
        rw [hfull, List.map_append]
        refine em_cat (ed_var rfl hvl) (ed_m ?_) (by rw [List.length_map, List.length_map, List.length_map, List.length_range]; omega)
        have e : ((List.range top).map fun j => row ++ [j + 1]).map dT = ((List.range (top + 1 - 1)).filter fun _ => true).map fun j => dT (row ++ [j + 1]) := by
          rw [filter_yes, List.map_map, Nat.add_sub_cancel]
          rfl
        rw [e]
        refine em_lcR _ _ (fun _ => true) _ (rg2 (lo := 1) (n := top + 1) (ea_cons ev_c (ea_cons (ev_is (ev_I2 (i := (top : Int)) (j := 1) (ev_var rfl) ev_c) rfl) ea_nil)) (by omega)) (by omega) (fun _ _ _ => lf_T _) fun l hl H4 e4 R k => g_name (k _ rfl et_yes fun _ => ?_)
        have e : dT (row ++ [l + 1]) = .tuple (row.map dI ++ [dI (l + 1)]) := by
          unfold dT
          rw [List.map_append]
          rfl
        rw [e]
        refine ed_catT (ed_var rfl (hd2.mono e4)) (ed_tup (ea_Dc (ed_I (ev_is (ev_var rfl) (congrArg V.int (by omega)))) ea_D) (by show 1 ≤ 100000; decide)) ?_
        rw [List.length_map]
        simp only [List.length_singleton]
        omega
      · obtain ⟨ex2, vl, y4, rfl, hvl⟩ := hp2
        rw [lb, List.take_length, ← hnext] at hvl
        refine s_asgD (ed_var rfl hvl) fun v9 H9 e9 hv9 => ⟨il, ((ex.trans e2).trans ex2).trans e9, v9, _, _, _, rfl, hv9⟩
    · obtain ⟨_, ex, vf, y2, y3, y4, rfl, hvf⟩ := hp
      rw [List.length_map, List.length_replicate] at hvf
      exact s_retD (ed_var rfl hvf) fun v H2 e2 hv => q v H2 (ex.trans e2) hv
def prePower : List PyData → PyData → Prop := fun ds d => ∃ a n : Nat, ds = [dI a, dI n] ∧ a ≤ 1000 ∧ n ≤ 100 ∧ d = dI (a ^ n)
theorem scLPower : FnScope ["_law_one", "_law_times", "_law_found", "_law_turn"] ["_law_one", "_law_times"] (defScope sLPower) := ⟨rfl, rfl, rfl, by decide +kernel, rfl, by decide +kernel, by decide +kernel⟩
theorem c_lpower (D : Dfn K mg "_law_power" sLPower ["_law_one", "_law_times"]) (Y : Nms mg) : Cal P w K mg base 1 "_law_power" ["_law_one", "_law_times"] (SpF prePower) := by
  refine cal_mk D scLPower (fun ds d h => by obtain ⟨x, g, rfl, _⟩ := h; rfl) fun f cdv A outer s H vs ds d Q E hr hv hp q => ?_
  obtain ⟨a, n, rfl, ha, hn, rfl⟩ := hp
  cases hv with
  | cons v0 hv =>
    cases hv with
    | cons v1 hv =>
      cases hv
      cases v0
      cases v1
      refine ⟨_, pss_cons (ps_set (i := 2) scLPower.nd rfl (.inl rfl) pe_int)
        (pss_cons (ps_for PassesOwn.never rfl (pi_range1 (by rfl) Y.range (pa_cons (pv 1) pa_nil)) (pg_name (i := 3) scLPower.nd rfl (.inl rfl))
          (pss_one (ps_set (i := 2) scLPower.nd rfl (.inl rfl) (pe_op op_mul (pv 2) (pv 0)))))
        (pss_one (ps_ret (pv 2)))), ?_⟩
      refine q_asg (v := vI 1) ev_c fun H1 e1 => ?_
      refine q_forR1 (j := 3) (n := ((n : Nat) : Int)) (ea_cons (ev_var rfl) ea_nil) (by omega) (fun i σ' H' => Ex H H' ∧ ∃ y, σ' = [some (vI a), some (vI n), some (vI (a ^ i)), y]) (fun H2 e2 => ⟨e1.trans e2, none, rfl⟩) (fun i σ' H' hi hp => ?_) (fun σ' H' hp => ?_)
      · obtain ⟨ex, y, rfl⟩ := hp
        refine s_asg (v := vI (a ^ (i + 1))) (ev_is (ev_op (ev_var rfl) (ev_var rfl) (rv_I (C := CMul) (g := fun i j => .int (i * j)) (i := ((a ^ i : Nat) : Int)) (j := (a : Int)) (.inr ⟨by omega, by omega⟩))) ?_) fun H2 e2 => ⟨ex.trans e2, _, rfl⟩
        rw [Nat.pow_succ]
        exact congrArg V.int (Int.natCast_mul (a ^ i) a).symm
      · obtain ⟨ex, y, rfl⟩ := hp
        rw [Int.toNat_natCast]
        exact s_retD (ed_I (ev_var rfl)) fun v H2 e2 hv => q v H2 (ex.trans e2) hv
end
end K31

set_option maxRecDepth 100000
set_option maxHeartbeats 8000000
namespace K31
open PySem PySem.Spec PyProof.Rows L2 Evl StX
section
variable {K : PySem.W.Frag} {σ : L2.St} {H H' : Hp} {ta tb tc te : TE} {t tt : TT} {v x : V} {d : PyData} {ds : List PyData}
abbrev tTL : TE := tTup (tCons (tC (.ty "tuple")) (tCons (tC (.ty "list")) tNil))
theorem ev_isiT {ty : Value} {b : Bool} (h : Ev ta σ H x) (hy : ∀ H1, Ex H H1 → TyX K H1 x ty) (k : PySem.W.kitAny K ty [.type "tuple", .type "list"] = some b) : Ev (tCB (rIsiT K) (tCons ta (tCons tTL tNil))) σ H (.bl b) := fun H1 a Q q =>
  h H1 a _ fun H2 a2 => ⟨sz_of (by show 2 ≤ 100000; decide), fun p hp => ⟨x, p, [.ty "tuple", .ty "list"], ty, _, b, rfl, upd_same, .cons (.ty _) (.cons (.ty _) .nil), hy _ ((a.trans a2).trans (Ex.new hp)), k, q _ (a2.trans (Ex.new hp))⟩⟩
theorem ev_eqB {a b : Bool} (ha : Ev ta σ H (.bl a)) (hb : Ev tb σ H (.bl b)) : Ev (tOp rEq ta tb) σ H (.bl (decide (a = b))) := ev_is (ev_op ha hb (rv_eq rfl)) (by cases a <;> cases b <;> rfl)
theorem ev_neB {a b : Bool} (ha : Ev ta σ H (.bl a)) (hb : Ev tb σ H (.bl b)) : Ev (tOp rNe ta tb) σ H (.bl (!decide (a = b))) := ev_is (ev_op ha hb (rv_ne rfl)) (by cases a <;> cases b <;> rfl)
theorem Ds.tyL (h : Ds H v (.list ds)) : TyX K H v (.type "list") := by
  obtain ⟨a, xs, rfl, ha, _⟩ := h.inj_list
  exact .base (.lst ha)
theorem Ds.tyT (h : Ds H v (.tuple ds)) : TyX K H v (.type "tuple") := by
  obtain ⟨a, xs, rfl, ha, _⟩ := h.inj_tup
  exact .base (.tup ha)
end
section
variable {P : Program} {w : World} {K : PySem.W.Frag} {mg : Str → Option Value} {base : Heap}
/-! ### _law_alike, the same data on both sides -/
inductive Al : Nat → PyData → Prop
  | int (n : Nat) (i : Int) : Al n (.int i)
  | tup {n : Nat} {ds : List PyData} : (∀ d ∈ ds, Al n d) → ds.length ≤ 30000 → Al (n + 1) (.tuple ds)
  | lst {n : Nat} {ds : List PyData} : (∀ d ∈ ds, Al n d) → ds.length ≤ 30000 → Al (n + 1) (.list ds)
def preAl (n : Nat) : List PyData → PyData → Prop := fun ds d => ∃ e, ds = [e, e] ∧ Al n e ∧ d = .bool true
theorem scAl : FnScope ["_law_found", "_law_due", "_law_k"] ["_law_found", "_law_due"] (defScope sAlike) := ⟨rfl, rfl, rfl, by decide +kernel, rfl, by decide +kernel, by decide +kernel⟩
theorem alike_int (Y : Nms mg) (f : Addr) (cdv : Value) (A : Around) (outer : List Env) (s : Shared) (H : Hp) (i : Int) (Q : VK) (E : XK) (q : ∀ v H', Ex H H' → Ds H' v (.bool true) → Q v H') :
    ∃ t, PSs (cxOf CX0 P w K mg base ["_law_found", "_law_due", "_law_k"] "_law_alike" (defScope sAlike) f cdv A outer s H E).nox (defBody sAlike) t ∧ t { nx := fun _ H' => Q .non H', rt := Q } (start ["_law_found", "_law_due", "_law_k"] [.int i, .int i]) H := by
  refine ⟨_, pss_cons (ps_if (pt_val (pe_callB call_isiT (by rfl) Y.isinstance (by decide +kernel) (pa_cons (pv 1) (pa_cons (pe_tup (pa_cons (pe_bltn (v := .ty "tuple") (by rfl) Y.tuple (by decide +kernel) rfl) (pa_cons (pe_bltn (v := .ty "list") (by rfl) Y.list (by decide +kernel) rfl) pa_nil))) pa_nil)))) (pss_cons ps_never (pss_cons ps_never (pss_one ps_never))) pss_nil)
    (pss_cons (ps_if (PW.pt (pw_or (pt_cmpR op_isN (pv 1) pe_non (nomark _)) (pw_or1 (pt_val (pe_callB call_isi (by rfl) Y.isinstance (by decide +kernel) (pa_cons (pv 1) (pa_cons (pe_bltn (v := .ty "str") (by rfl) Y.str (by decide +kernel) rfl) pa_nil))))))) (pss_one ps_never) pss_nil)
    (pss_one (ps_ret (pe_and (pe_callB call_isi (by rfl) Y.isinstance (by decide +kernel) (pa_cons (pv 0) (pa_cons (pe_bltn (v := .ty "int") (by rfl) Y.int (by decide +kernel) rfl) pa_nil)))
      (pe_and (pe_cmpR op_eq (pe_callB call_isi (by rfl) Y.isinstance (by decide +kernel) (pa_cons (pv 0) (pa_cons (pe_bltn (v := .ty "bool") (by rfl) Y.bool (by decide +kernel) rfl) pa_nil))) (pe_callB call_isi (by rfl) Y.isinstance (by decide +kernel) (pa_cons (pv 1) (pa_cons (pe_bltn (v := .ty "bool") (by rfl) Y.bool (by decide +kernel) rfl) pa_nil))) (nomark _))
        (pe_one (pe_cmpR op_eq (pv 0) (pv 1) (nomark _)))))))), ?_⟩
  refine q_when (b := false) (et_B (ev_isiT (ev_var rfl) (fun _ _ => .base (.int _)) (kitAny_cons (kit_ty (b := "tuple") (r := false) (by decide +kernel)) (fun _ => kitAny_cons (kit_ty (b := "list") (r := false) (by decide +kernel)) (fun _ => kitAny_nil) (fun z => absurd z (by decide))) (fun z => absurd z (by decide))))) (fun z => absurd z (by decide)) fun _ H1 e1 => ?_
  refine q_when (b := false) (et_or (a := false) (b := false) (et_test (ev_op (x := .int i) (y := .non) (z := .bl false) (ev_var rfl) ev_c fun H2 _ Q2 q2 => ⟨rfl, q2 H2 (Ex.refl H2)⟩)) fun _ => et_B (ev_isi (ev_var rfl) ev_c (.ty _) (fun _ _ => .base (.int _)) (kit_ty (by decide +kernel)))) (fun z => absurd z (by decide)) fun _ H2 e2 => ?_
  have eb : ∀ j, j < 2 → Ev (tCB (rIsi K) (tCons (tVar j) (tCons (tC (.ty "bool")) tNil))) (start ["_law_found", "_law_due", "_law_k"] [.int i, .int i]) H2 (.bl false) := fun j hj => ev_isi (x := .int i) (ev_var (by
    have : j = 0 ∨ j = 1 := by omega
    rcases this with rfl | rfl <;> rfl)) ev_c (.ty _) (fun _ _ => .base (.int _)) (kit_ty (by decide +kernel))
  refine s_ret (v := .bl true) (ev_andV (a := true) (b := true) (ev_isi (ev_var rfl) ev_c (.ty _) (fun _ _ => .base (.int _)) (kit_ty (by decide +kernel))) fun _ => ev_andV (a := true) (b := true) (ev_eqB (eb 0 (by decide)) (eb 1 (by decide))) fun _ => ev_is (ev_eqI (ev_var rfl) (ev_var rfl)) (by rw [decide_eq_true rfl])) fun H3 e3 => q _ H3 ((e1.trans e2).trans e3) (.bl true)
theorem c_lalike (D : Dfn K mg "_law_alike" sAlike ["_law_found", "_law_due"]) (Y : Nms mg) : ∀ n, Cal P w K mg base (n + 1) "_law_alike" ["_law_found", "_law_due"] (SpF (preAl n)) := by
  intro n
  induction n with
  | zero =>
    refine cal_mk D scAl (fun ds d h => by obtain ⟨e, rfl, _⟩ := h; rfl) fun f cdv A outer s H vs ds d Q E hr hv hp q => ?_
    obtain ⟨e, rfl, ha, rfl⟩ := hp
    cases ha with
    | int _ i =>
      cases hv with
      | cons v0 hv =>
        cases hv with
        | cons v1 hv =>
          cases hv
          cases v0
          cases v1
          exact alike_int Y f cdv A outer s H i Q E q
  | succ n ih =>
    refine cal_mk D scAl (fun ds d h => by obtain ⟨e, rfl, _⟩ := h; rfl) fun f cdv A outer s H vs ds d Q E hr hv hp q => ?_
    obtain ⟨e, rfl, ha, rfl⟩ := hp
    cases hv with
    | cons v0 hv =>
      cases hv with
      | cons v1 hv =>
        cases hv
        cases ha with
        | int _ i =>
          cases v0
          cases v1
          exact alike_int Y f cdv A outer s H i Q E q
        | @tup _ es hal hln =>
          refine ⟨_, pss_cons (ps_if (pt_val (pe_callB call_isiT (by rfl) Y.isinstance (by decide +kernel) (pa_cons (pv 1) (pa_cons (pe_tup (pa_cons (pe_bltn (v := .ty "tuple") (by rfl) Y.tuple (by decide +kernel) rfl) (pa_cons (pe_bltn (v := .ty "list") (by rfl) Y.list (by decide +kernel) rfl) pa_nil))) pa_nil))))
            (pss_cons (ps_if (PW.pt (pw_or (pt_not (pt_val (pe_callB call_isiT (by rfl) Y.isinstance (by decide +kernel) (pa_cons (pv 0) (pa_cons (pe_tup (pa_cons (pe_bltn (v := .ty "tuple") (by rfl) Y.tuple (by decide +kernel) rfl) (pa_cons (pe_bltn (v := .ty "list") (by rfl) Y.list (by decide +kernel) rfl) pa_nil))) pa_nil)))))
                (pw_or1 (pt_cmpR op_ne (pe_callB call_isi (by rfl) Y.isinstance (by decide +kernel) (pa_cons (pv 0) (pa_cons (pe_bltn (v := .ty "list") (by rfl) Y.list (by decide +kernel) rfl) pa_nil))) (pe_callB call_isi (by rfl) Y.isinstance (by decide +kernel) (pa_cons (pv 1) (pa_cons (pe_bltn (v := .ty "list") (by rfl) Y.list (by decide +kernel) rfl) pa_nil))) (nomark _))))) (pss_one ps_never) pss_nil)
            (pss_cons (ps_if (pt_cmpR op_ne (pe_callB call_len (by rfl) Y.len PySem.boot_len (pa_cons (pv 0) pa_nil)) (pe_callB call_len (by rfl) Y.len PySem.boot_len (pa_cons (pv 1) pa_nil)) (nomark _)) (pss_one ps_never) pss_nil)
            (pss_one (ps_ret (pe_cmpR (op_eqD hr.units) (pe_lc (own := [("_law_k", 2)]) (g := gName 2) (te := tVar 2) rfl scAl.nd (pi_range1 (by rfl) Y.range (pa_cons (pe_callB call_len (by rfl) Y.len PySem.boot_len (pa_cons (pv 1) pa_nil)) pa_nil)) (blkOk_by (N := ["_law_found", "_law_due", "_law_k"]) (sc := defScope sAlike) (by decide +kernel))
              (fun _ _ _ _ _ => pg_name (i := 2) scAl.nd rfl (.inl rfl) (.inr rfl)) (tt := tNot (tB (tCall (SpF (preAl n)) [] E0 (tCons (tOp (rIxT K) (tVar 0) (tVar 2)) (tCons (tOp (rIxT K) (tVar 1) (tVar 2)) tNil))))) (fun _ _ _ _ _ => pts_one (pt_not (pt_val (pe_cal ih hr (by rfl) (pa_cons (pe_ix ix_tup (pv 0) (pv 2) (fun _ _ => rfl)) (pa_cons (pe_ix ix_tup (pv 1) (pv 2) (fun _ _ => rfl)) pa_nil)))))) (fun _ _ _ _ _ => pv 2)) (pe_lst pa_nil) (nomark _))))))
            pss_nil) (pss_cons ps_never (pss_one ps_never)), ?_⟩
          have tk : ∀ H1, Ex H H1 → PySem.W.kitAny K (.type "tuple") [.type "tuple", .type "list"] = some true := fun _ _ => kitAny_cons (kit_ty (b := "tuple") (r := true) (by decide +kernel)) (fun z => absurd z (by decide)) fun _ => rfl
          refine q_if (b := true) (et_B (ev_isiT (ev_var rfl) (fun H1 e1 => (v1.mono e1).tyT) (tk H (Ex.refl H)))) (fun _ H1 e1 => ?_) fun z => absurd z (by decide)
          refine q_when (b := false) (et_or (a := false) (b := false) (et_not (a := true) (et_B (ev_isiT (ev_var rfl) (fun H2 e2 => (v0.mono (e1.trans e2)).tyT) (tk H (Ex.refl H))))) fun _ => et_test (ev_neB (a := false) (b := false) (ev_isi (ev_var rfl) ev_c (.ty _) (fun H2 e2 => (v0.mono (e1.trans e2)).tyT) (kit_ty (by decide +kernel))) (ev_isi (ev_var rfl) ev_c (.ty _) (fun H2 e2 => (v1.mono (e1.trans e2)).tyT) (kit_ty (by decide +kernel))))) (fun z => absurd z (by decide)) fun _ H2 e2 => ?_
          have x2 := e1.trans e2
          refine q_when (b := false) (et_is (et_test (ev_neI (ev_lenXT (ed_var rfl (v0.mono x2))) (ev_lenXT (ed_var rfl (v1.mono x2))))) (by rw [decide_eq_true rfl]; rfl)) (fun z => absurd z (by decide)) fun _ H3 e3 => ?_
          have x3 := x2.trans e3
          have hnil : ((List.range es.length).filter fun _ => false).map (fun _ => PyData.none) = [] := by simp
          refine s_retD (ed_bl (et_eqD (b := true) (d := .list (((List.range es.length).filter fun _ => false).map fun _ => .none)) (e := .list []) (ed_m ?_) (ed_m (em_lst ea_D (by decide))) (by rw [hnil]; exact shaped_nil) shaped_nil (by rw [hnil]; rfl))) fun v H4 e4 hv => q v H4 (x3.trans e4) hv
          refine em_lcR _ _ (fun _ => false) _ (rg1 (ea_cons (ev_lenXT (ed_var rfl (v1.mono x3))) ea_nil) (by omega)) (by omega) (fun _ _ z => absurd z (by decide)) fun l hl H4 e4 R k => g_name (k _ rfl (et_not (a := true) (et_B (ev_bl ?_))) fun z => absurd z (by decide))
          have x4 := x3.trans e4
          have hg : es[l]? = some es[l] := List.getElem?_eq_getElem hl
          exact ed_call (ds := [es[l], es[l]]) (ea_Dc (ed_ixT (i := (l : Int)) (ed_var rfl (v0.mono x4)) (ev_is (ev_var rfl) (congrArg V.int (Int.zero_add _))) (atI_nat hg)) (ea_Dc (ed_ixT (i := (l : Int)) (ed_var rfl (v1.mono x4)) (ev_is (ev_var rfl) (congrArg V.int (Int.zero_add _))) (atI_nat hg)) ea_D)) ⟨es[l], rfl, hal _ (List.getElem_mem hl), rfl⟩
        | @lst _ es hal hln =>
          refine ⟨_, pss_cons (ps_if (pt_val (pe_callB call_isiT (by rfl) Y.isinstance (by decide +kernel) (pa_cons (pv 1) (pa_cons (pe_tup (pa_cons (pe_bltn (v := .ty "tuple") (by rfl) Y.tuple (by decide +kernel) rfl) (pa_cons (pe_bltn (v := .ty "list") (by rfl) Y.list (by decide +kernel) rfl) pa_nil))) pa_nil))))
            (pss_cons (ps_if (PW.pt (pw_or (pt_not (pt_val (pe_callB call_isiT (by rfl) Y.isinstance (by decide +kernel) (pa_cons (pv 0) (pa_cons (pe_tup (pa_cons (pe_bltn (v := .ty "tuple") (by rfl) Y.tuple (by decide +kernel) rfl) (pa_cons (pe_bltn (v := .ty "list") (by rfl) Y.list (by decide +kernel) rfl) pa_nil))) pa_nil)))))
                (pw_or1 (pt_cmpR op_ne (pe_callB call_isi (by rfl) Y.isinstance (by decide +kernel) (pa_cons (pv 0) (pa_cons (pe_bltn (v := .ty "list") (by rfl) Y.list (by decide +kernel) rfl) pa_nil))) (pe_callB call_isi (by rfl) Y.isinstance (by decide +kernel) (pa_cons (pv 1) (pa_cons (pe_bltn (v := .ty "list") (by rfl) Y.list (by decide +kernel) rfl) pa_nil))) (nomark _))))) (pss_one ps_never) pss_nil)
            (pss_cons (ps_if (pt_cmpR op_ne (pe_callB call_len (by rfl) Y.len PySem.boot_len (pa_cons (pv 0) pa_nil)) (pe_callB call_len (by rfl) Y.len PySem.boot_len (pa_cons (pv 1) pa_nil)) (nomark _)) (pss_one ps_never) pss_nil)
            (pss_one (ps_ret (pe_cmpR (op_eqD hr.units) (pe_lc (own := [("_law_k", 2)]) (g := gName 2) (te := tVar 2) rfl scAl.nd (pi_range1 (by rfl) Y.range (pa_cons (pe_callB call_len (by rfl) Y.len PySem.boot_len (pa_cons (pv 1) pa_nil)) pa_nil)) (blkOk_by (N := ["_law_found", "_law_due", "_law_k"]) (sc := defScope sAlike) (by decide +kernel))
              (fun _ _ _ _ _ => pg_name (i := 2) scAl.nd rfl (.inl rfl) (.inr rfl)) (tt := tNot (tB (tCall (SpF (preAl n)) [] E0 (tCons (tOp (rIxL K) (tVar 0) (tVar 2)) (tCons (tOp (rIxL K) (tVar 1) (tVar 2)) tNil))))) (fun _ _ _ _ _ => pts_one (pt_not (pt_val (pe_cal ih hr (by rfl) (pa_cons (pe_ix ix_list (pv 0) (pv 2) (fun _ _ => rfl)) (pa_cons (pe_ix ix_list (pv 1) (pv 2) (fun _ _ => rfl)) pa_nil)))))) (fun _ _ _ _ _ => pv 2)) (pe_lst pa_nil) (nomark _))))))
            pss_nil) (pss_cons ps_never (pss_one ps_never)), ?_⟩
          have tk : ∀ H1, Ex H H1 → PySem.W.kitAny K (.type "list") [.type "tuple", .type "list"] = some true := fun _ _ => kitAny_cons (kit_ty (b := "tuple") (r := false) (by decide +kernel)) (fun _ => kitAny_cons (kit_ty (b := "list") (r := true) (by decide +kernel)) (fun z => absurd z (by decide)) fun _ => rfl) fun z => absurd z (by decide)
          refine q_if (b := true) (et_B (ev_isiT (ev_var rfl) (fun H1 e1 => (v1.mono e1).tyL) (tk H (Ex.refl H)))) (fun _ H1 e1 => ?_) fun z => absurd z (by decide)
          refine q_when (b := false) (et_or (a := false) (b := false) (et_not (a := true) (et_B (ev_isiT (ev_var rfl) (fun H2 e2 => (v0.mono (e1.trans e2)).tyL) (tk H (Ex.refl H))))) fun _ => et_test (ev_neB (a := true) (b := true) (ev_isi (ev_var rfl) ev_c (.ty _) (fun H2 e2 => (v0.mono (e1.trans e2)).tyL) (kit_ty (by decide +kernel))) (ev_isi (ev_var rfl) ev_c (.ty _) (fun H2 e2 => (v1.mono (e1.trans e2)).tyL) (kit_ty (by decide +kernel))))) (fun z => absurd z (by decide)) fun _ H2 e2 => ?_
          have x2 := e1.trans e2
          refine q_when (b := false) (et_is (et_test (ev_neI (ev_lenXL (ed_var rfl (v0.mono x2))) (ev_lenXL (ed_var rfl (v1.mono x2))))) (by rw [decide_eq_true rfl]; rfl)) (fun z => absurd z (by decide)) fun _ H3 e3 => ?_
          have x3 := x2.trans e3
          have hnil : ((List.range es.length).filter fun _ => false).map (fun _ => PyData.none) = [] := by simp
          refine s_retD (ed_bl (et_eqD (b := true) (d := .list (((List.range es.length).filter fun _ => false).map fun _ => .none)) (e := .list []) (ed_m ?_) (ed_m (em_lst ea_D (by decide))) (by rw [hnil]; exact shaped_nil) shaped_nil (by rw [hnil]; rfl))) fun v H4 e4 hv => q v H4 (x3.trans e4) hv
          refine em_lcR _ _ (fun _ => false) _ (rg1 (ea_cons (ev_lenXL (ed_var rfl (v1.mono x3))) ea_nil) (by omega)) (by omega) (fun _ _ z => absurd z (by decide)) fun l hl H4 e4 R k => g_name (k _ rfl (et_not (a := true) (et_B (ev_bl ?_))) fun z => absurd z (by decide))
          have x4 := x3.trans e4
          have hg : es[l]? = some es[l] := List.getElem?_eq_getElem hl
          exact ed_call (ds := [es[l], es[l]]) (ea_Dc (ed_ixL (i := (l : Int)) (ed_var rfl (v0.mono x4)) (ev_is (ev_var rfl) (congrArg V.int (Int.zero_add _))) (atI_nat hg)) (ea_Dc (ed_ixL (i := (l : Int)) (ed_var rfl (v1.mono x4)) (ev_is (ev_var rfl) (congrArg V.int (Int.zero_add _))) (atI_nat hg)) ea_D)) ⟨es[l], rfl, hal _ (List.getElem_mem hl), rfl⟩
end
end K31

set_option maxRecDepth 100000
set_option maxHeartbeats 8000000
namespace K31
open PySem PySem.Spec PyProof.Rows L2 Evl StX
/-- all but r stands -/
def Mv (r : Addr) (H H' : Hp) : Prop := ∀ a o, a ≠ r → H a = some o → H' a = some o
theorem ex_mv {r : Addr} {H H' : Hp} (e : Ex H H') : Mv r H H' := fun a o _ h => e a o h
theorem Mv.trans {r : Addr} {H H1 H2 : Hp} (a : Mv r H H1) (b : Mv r H1 H2) : Mv r H H2 := fun x o hx h => b x o hx (a x o hx h)
theorem Mv.set {r : Addr} {H H' : Hp} {u : HO} (e : Mv r H H') : Mv r H (upd H' r u) := fun a o ha h => by
  rw [upd_ne ha]
  exact e a o ha h
/-- the law's row: the script, three numbers -/
def Rw (r sc : Addr) (H : Hp) : Prop := ∃ i seed rest : Int, 0 ≤ i ∧ H r = some (.lst [.ref sc, .int i, .int seed, .int rest])
theorem sq_mv {K : PySem.W.Frag} {r sc : Addr} {H H' : Hp} {ns : List Int} (s : SqL K H sc (ns.map V.int)) (h : Rw r sc H) (e : Mv r H H') : SqL K H' sc (ns.map V.int) := by
  obtain ⟨i, seed, rest, _, hr⟩ := h
  by_cases c : sc = r
  · subst c
    rcases s with (s | ⟨o, s⟩) | s
    · rw [hr] at s
      cases ns with
      | nil => exact absurd (HO.lst.inj (Option.some.inj s)) (by simp)
      | cons n ns =>
        have z := HO.lst.inj (Option.some.inj s)
        rw [List.map_cons] at z
        exact absurd (List.cons.inj z).1 (by simp)
    · rw [hr] at s
      exact absurd (Option.some.inj s) (by simp)
    · exact .inr s
  · rcases s with (s | ⟨o, s⟩) | s
    · exact .inl (.inl (e _ _ c s))
    · exact .inl (.inr ⟨o, e _ _ c s⟩)
    · exact .inr s
theorem vI_mod (x : Int) {m : Nat} (h : 1 ≤ m) : V.int (x % (m : Int)) = vI (x % (m : Int)).toNat ∧ (x % (m : Int)).toNat < m := by
  have h1 : 0 ≤ x % (m : Int) := Int.emod_nonneg x (by omega)
  have h2 : x % (m : Int) < (m : Int) := Int.emod_lt_of_pos x (by omega)
  generalize x % (m : Int) = y at h1 h2
  refine ⟨congrArg V.int (Int.toNat_of_nonneg h1).symm, by omega⟩
section
variable {K : PySem.W.Frag} {σ : L2.St} {H H' : Hp} {ta tb tc te : TE} {t tt : TT} {v x : V} {d : PyData} {ds : List PyData}
theorem ev_ixR {r : Addr} {xs : List V} {j : Int} (ha : Ev ta σ H (.ref r)) (hb : Ev tb σ H (.int j)) (hr : SqL K H r xs) (hx : atI xs j = some v) (hm : ∀ H1, Ex H H1 → SqL K H1 r xs) : Ev (tOp (rIxL K) ta tb) σ H v :=
  ev_op ha hb fun H1 e Q q => ⟨r, xs, j, v, rfl, rfl, hm H1 e, hx, q H1 (Ex.refl _)⟩
theorem sq_ex {H H' : Hp} {r : Addr} {xs : List V} (s : SqL K H r xs) (e : Ex H H') : SqL K H' r xs := by
  rcases s with (s | ⟨o, s⟩) | s
  · exact .inl (.inl (e _ _ s))
  · exact .inl (.inr ⟨o, e _ _ s⟩)
  · exact .inr s
theorem ev_ixq {r : Addr} {xs : List V} {j : Int} (ha : Ev ta σ H (.ref r)) (hb : Ev tb σ H (.int j)) (hr : SqL K H r xs) (hx : atI xs j = some v) : Ev (tOp (rIxL K) ta tb) σ H v := ev_ixR ha hb hr hx fun H1 e => sq_ex hr e
abbrev rInt1 : List V → Hp → VK → Prop := fun xs H Q => (∃ i, xs = [.int i] ∧ Q (.int i) H) ∨ ∃ k, xs = [.bl k] ∧ Q (.int (if k then 1 else 0)) H
theorem ev_int1 {i : Int} (h : Ev ta σ H (.int i)) : Ev (tCB rInt1 (tCons ta tNil)) σ H (.int i) := ev_cb (ea_cons h ea_nil) fun H1 _ Q q => .inl ⟨i, rfl, q H1 (Ex.refl H1)⟩
abbrev rModP : R2 := rI (fun _ j => 0 < j) fun i j => .int (i % j)
abbrev rDivP : R2 := rI CDiv fun i j => .int (i / j)
abbrev rMulP : R2 := rI CMul fun i j => .int (i * j)
theorem ev_mod {i j : Int} (ha : Ev ta σ H (.int i)) (hb : Ev tb σ H (.int j)) (h : 0 < j) : Ev (tOp rModP ta tb) σ H (.int (i % j)) := ev_op ha hb (rv_I (C := fun _ j => 0 < j) (g := fun i j => .int (i % j)) h)
theorem ev_div {i j : Int} (ha : Ev ta σ H (.int i)) (hb : Ev tb σ H (.int j)) (h : CDiv i j) : Ev (tOp rDivP ta tb) σ H (.int (i / j)) := ev_op ha hb (rv_I (C := CDiv) (g := fun i j => .int (i / j)) h)
theorem ev_mul {i j : Int} (ha : Ev ta σ H (.int i)) (hb : Ev tb σ H (.int j)) (h : CMul i j) : Ev (tOp rMulP ta tb) σ H (.int (i * j)) := ev_op ha hb (rv_I (C := CMul) (g := fun i j => .int (i * j)) h)
theorem ev_lenQ {r : Addr} {xs : List V} (ha : Ev ta σ H (.ref r)) (hr : SqL K H r xs) : Ev (tCB (rLenX K) (tCons ta tNil)) σ H (vI xs.length) := fun H1 a Q q => ha H1 a _ fun H2 b2 => ⟨.ref r, xs.length, rfl, .inl ⟨xs, sq_ex hr (a.trans b2), rfl⟩, q H2 b2⟩
end
section
variable {P : Program} {w : World} {K : PySem.W.Frag} {mg : Str → Option Value} {base : Heap}
theorem cal_mkS {x : Str} {st : Stmt} {N ps : List Str} {k : Nat} {sp : Sp} (D : Dfn K mg x st ps) (S : FnScope N ps (defScope st)) (hl : ∀ vs H Q E, sp vs H Q E → vs.length = ps.length)
    (body : ∀ (f : Addr) (cdv : Value) (A : Around) (outer : List Env) (s : Shared) (H : Hp) (vs : List V) (Q : VK) (E : XK), Room k (A.deeper (envOfC x (defScope st) s.heap.objs.size f cdv)) → sp vs H Q E →
      ∃ t, PSs (cxOf CX0 P w K mg base N x (defScope st) f cdv A outer s H E).nox (defBody st) t ∧ t { nx := fun _ H' => Q .non H', rt := Q } (start N vs) H) : Cal P w K mg base (k + 1) x ps sp := by
  obtain ⟨f, fd, F, g, b⟩ := D
  exact ⟨f, fd, g, F.kp, b, F.ok S (fun vs H Q E h => hl vs H Q E h) fun cdv A outer s H vs Q E hr h => body f cdv A outer s H vs Q E hr h⟩
/-! ### _law_taken -/
def spTaken (K : PySem.W.Frag) : Sp := fun vs H Q _ => ∃ (r sc : Addr) (ns : List Int) (m : Nat), vs = [.ref r, vI m] ∧ 1 ≤ m ∧ m ≤ 1000 ∧ Rw r sc H ∧ SqL K H sc (ns.map V.int) ∧ ∀ k H', k < m → Mv r H H' → Rw r sc H' → Q (vI k) H'
theorem scTaken : FnScope ["_law_row", "_law_many", "_law_found", "_law_cell"] ["_law_row", "_law_many"] (defScope sTaken) := ⟨rfl, rfl, rfl, by decide +kernel, rfl, by decide +kernel, by decide +kernel⟩
theorem c_taken (D : Dfn K mg "_law_taken" sTaken ["_law_row", "_law_many"]) (Y : Nms mg) : Cal P w K mg base 1 "_law_taken" ["_law_row", "_law_many"] (spTaken K) := by
  refine cal_mkS D scTaken (fun vs H Q E h => by obtain ⟨r, sc, ns, m, rfl, _⟩ := h; rfl) fun f cdv A outer s H vs Q E hr hp => ?_
  obtain ⟨r, sc, ns, m, rfl, hm1, hm, hrw, hsq, q⟩ := hp
  refine ⟨_, pss_cons (ps_if (pt_cmpR op_gt (pe_ix ix_list (pv 0) pe_int (fun _ _ => rfl)) pe_int (nomark _))
        (pss_cons (ps_set (i := 2) scTaken.nd rfl (.inl rfl) (pe_op op_mod (pe_callTy call_int1 (by rfl) Y.int (by decide +kernel) (pa_cons (pe_ix ix_list (pv 0) pe_int (fun _ _ => rfl)) pa_nil)) (pv 1)))
        (pss_cons (ps_asg (pe_op op_fdiv (pe_ix ix_list (pv 0) pe_int (fun _ _ => rfl)) (pv 1)) (pg_sub (pv 0) pe_int set_list))
        (pss_one (ps_ret (pv 2))))) pss_nil)
      (pss_cons (ps_asg (pe_op op_add (pe_ix ix_list (pv 0) pe_int (fun _ _ => rfl)) pe_int) (pg_sub (pv 0) pe_int set_list))
      (pss_cons (ps_if (pt_cmpR op_gt (pe_ix ix_list (pv 0) pe_int (fun _ _ => rfl)) (pe_callB call_len (by rfl) Y.len PySem.boot_len (pa_cons (pe_ix ix_list (pv 0) pe_int (fun _ _ => rfl)) pa_nil)) (nomark _))
        (pss_cons (ps_asg (pe_op op_mod (pe_callTy call_int1 (by rfl) Y.int (by decide +kernel) (pa_cons (pe_op op_add (pe_op op_mul (pe_ix ix_list (pv 0) pe_int (fun _ _ => rfl)) pe_int) pe_int) pa_nil)) pe_int) (pg_sub (pv 0) pe_int set_list))
        (pss_one (ps_ret (pe_op op_mod (pe_callTy call_int1 (by rfl) Y.int (by decide +kernel) (pa_cons (pe_op op_fdiv (pe_ix ix_list (pv 0) pe_int (fun _ _ => rfl)) pe_int) pa_nil)) (pv 1))))) pss_nil)
      (pss_cons (ps_set (i := 3) scTaken.nd rfl (.inl rfl) (pe_ix ix_list (pe_ix ix_list (pv 0) pe_int (fun _ _ => rfl)) (pe_op op_sub (pe_ix ix_list (pv 0) pe_int (fun _ _ => rfl)) pe_int) (fun _ _ => rfl)))
      (pss_cons (ps_asg (pe_op op_mod (pe_callTy call_int1 (by rfl) Y.int (by decide +kernel) (pa_cons (pe_op op_add (pe_op op_add (pe_op op_mul (pe_ix ix_list (pv 0) pe_int (fun _ _ => rfl)) pe_int) (pv 3)) pe_int) pa_nil)) pe_int) (pg_sub (pv 0) pe_int set_list))
      (pss_cons (ps_if (pt_cmpR op_ge (pv 3) (pe_op op_pow pe_int pe_int) (nomark _)) (pss_one (ps_asg (pe_op op_fdiv (pv 3) (pv 1)) (pg_sub (pv 0) pe_int set_list))) pss_nil)
      (pss_one (ps_ret (pe_op op_mod (pe_callTy call_int1 (by rfl) Y.int (by decide +kernel) (pa_cons (pv 3) pa_nil)) (pv 1))))))))), ?_⟩
  obtain ⟨i, seed, rest, hi, hrow⟩ := hrw
  have hd : ∀ x : Int, CDiv x (m : Int) := fun x => ⟨by omega, by omega⟩
  refine q_when (b := decide ((0 : Int) < rest)) (et_test (ev_I2 (g := fun i j => .bl (decide (j < i))) (i := rest) (j := 0) (ev_ixq (ev_var rfl) ev_c (SqL.of hrow) rfl) ev_c)) (fun hb H1 e1 => ?_) fun hb H1 e1 => ?_
  · have h1 := e1 _ _ hrow
    obtain ⟨w1, w2⟩ := vI_mod rest hm1
    refine q_asg (v := .int (rest % (m : Int))) (ev_mod (ev_int1 (ev_ixq (ev_var rfl) ev_c (SqL.of h1) rfl)) (ev_var rfl) (by omega)) fun H2 e2 => ?_
    have h2 := e2 _ _ h1
    refine q_setL (j := 3) h2 (ev_div (ev_ixq (ev_var rfl) ev_c (SqL.of h2) rfl) (ev_var rfl) (hd rest)) (ev_var rfl) ev_c (by show 3 < 4; decide) fun H3 e3 => ?_
    refine s_ret (ev_var rfl) fun H4 e4 => ?_
    rw [w1]
    exact q _ H4 w2 ((ex_mv ((e1.trans e2).trans e3)).set.trans (ex_mv e4)) ⟨i, seed, _, hi, e4 _ _ upd_same⟩
  · have h1 := e1 _ _ hrow
    refine q_setL (j := 1) (v := .int (i + 1)) h1 (ev_I2 (g := fun i j => .int (i + j)) (ev_ixq (ev_var rfl) ev_c (SqL.of h1) rfl) ev_c) (ev_var rfl) ev_c (by show 1 < 4; decide) fun H2 e2 => ?_
    have h2 : upd H2 r (.lst [.ref sc, .int (i + 1), .int seed, .int rest]) r = some (.lst [.ref sc, .int (i + 1), .int seed, .int rest]) := upd_same
    have m2 : Mv r H (upd H2 r (.lst [.ref sc, .int (i + 1), .int seed, .int rest])) := (ex_mv (e1.trans e2)).set
    have s2 := sq_mv hsq ⟨i, seed, rest, hi, hrow⟩ m2
    change (tSeq _ _) _ _ (upd H2 r (.lst [.ref sc, .int (i + 1), .int seed, .int rest]))
    generalize upd H2 r (.lst [.ref sc, .int (i + 1), .int seed, .int rest]) = H3 at h2 m2 s2
    refine q_when (b := decide (((ns.length : Nat) : Int) < i + 1)) (et_test (ev_is (ev_I2 (g := fun i j => .bl (decide (j < i))) (i := i + 1) (ev_ixq (ev_var rfl) ev_c (SqL.of h2) rfl) (ev_lenQ (ev_ixq (ev_var rfl) ev_c (SqL.of h2) rfl) s2)) (by rw [List.length_map]))) (fun hb H4 e4 => ?_) fun hb H4 e4 => ?_
    · have h4 := e4 _ _ h2
      refine q_setL (j := 2) h4 (ev_mod (ev_int1 (ev_I2 (g := fun i j => .int (i + j)) (ev_mul (ev_ixq (ev_var rfl) ev_c (SqL.of h4) rfl) ev_c (.inr ⟨by decide, by decide⟩)) ev_c)) ev_c (by decide)) (ev_var rfl) ev_c (by show 2 < 4; decide) fun H5 e5 => ?_
      generalize (seed * 48271 + 11) % 2147483647 = sd
      have h5 : upd H5 r (.lst [.ref sc, .int (i + 1), .int sd, .int rest]) r = some (.lst [.ref sc, .int (i + 1), .int sd, .int rest]) := upd_same
      obtain ⟨w1, w2⟩ := vI_mod (sd / 7) hm1
      refine s_ret (ev_mod (ev_int1 (ev_div (ev_ixq (ev_var rfl) ev_c (SqL.of h5) rfl) ev_c ⟨by decide, by decide⟩)) (ev_var rfl) (by omega)) fun H6 e6 => ?_
      rw [w1]
      exact q _ H6 w2 (m2.trans ((ex_mv (e4.trans e5)).set.trans (ex_mv e6))) ⟨i + 1, sd, rest, by omega, e6 _ _ h5⟩
    · have h4 := e4 _ _ h2
      have hlt : i.toNat < ns.length := by
        have := of_decide_eq_false hb
        omega
      refine q_asg (v := .int ns[i.toNat]) (ev_ixq (ev_ixq (ev_var rfl) ev_c (SqL.of h4) rfl) (ev_I2 (g := fun i j => .int (i - j)) (ev_ixq (ev_var rfl) ev_c (SqL.of h4) rfl) ev_c) (sq_ex s2 e4) (by
        rw [show (i + 1 - 1 : Int) = ((i.toNat : Nat) : Int) by omega]
        refine atI_nat ?_
        rw [List.getElem?_map, List.getElem?_eq_getElem hlt]
        rfl)) fun H5 e5 => ?_
      generalize ns[i.toNat] = cell
      have h5 := e5 _ _ h4
      refine q_setL (j := 2) h5 (ev_mod (ev_int1 (ev_I2 (g := fun i j => .int (i + j)) (ev_I2 (g := fun i j => .int (i + j)) (ev_mul (ev_ixq (ev_var rfl) ev_c (SqL.of h5) rfl) ev_c (.inr ⟨by decide, by decide⟩)) (ev_var rfl)) ev_c)) ev_c (by decide)) (ev_var rfl) ev_c (by show 2 < 4; decide) fun H6 e6 => ?_
      generalize (seed * 48271 + cell + 11) % 2147483647 = sd
      have h6 : upd H6 r (.lst [.ref sc, .int (i + 1), .int sd, .int rest]) r = some (.lst [.ref sc, .int (i + 1), .int sd, .int rest]) := upd_same
      have m6 : Mv r H (upd H6 r (.lst [.ref sc, .int (i + 1), .int sd, .int rest])) := m2.trans (ex_mv ((e4.trans e5).trans e6)).set
      change (tSeq _ _) _ _ (upd H6 r (.lst [.ref sc, .int (i + 1), .int sd, .int rest]))
      generalize upd H6 r (.lst [.ref sc, .int (i + 1), .int sd, .int rest]) = H7 at h6 m6
      obtain ⟨w1, w2⟩ := vI_mod cell hm1
      refine q_when (b := decide ((10 : Int) ^ 18 ≤ cell)) (et_test (ev_I2 (g := fun i j => .bl (decide (j ≤ i))) (ev_var rfl) (ev_op ev_c ev_c (rv_I (C := CPow) (g := fun i j => .int (i ^ j.toNat)) (i := 10) (j := 18) ⟨by decide, by decide, by decide⟩)))) (fun hb H8 e8 => ?_) fun hb H8 e8 => ?_
      · refine s_setL (j := 3) (e8 _ _ h6) (ev_div (ev_var rfl) (ev_var rfl) (hd cell)) (ev_var rfl) ev_c (by show 3 < 4; decide) fun H9 e9 => ?_
        refine s_ret (ev_mod (ev_int1 (ev_var rfl)) (ev_var rfl) (by omega)) fun H10 e10 => ?_
        rw [w1]
        exact q _ H10 w2 (m6.trans ((ex_mv (e8.trans e9)).set.trans (ex_mv e10))) ⟨i + 1, sd, _, by omega, e10 _ _ upd_same⟩
      · refine s_ret (ev_mod (ev_int1 (ev_var rfl)) (ev_var rfl) (by omega)) fun H10 e10 => ?_
        rw [w1]
        exact q _ H10 w2 (m6.trans (ex_mv (e8.trans e10))) ⟨i + 1, sd, rest, by omega, (e8.trans e10) _ _ h6⟩
end
end K31

set_option maxRecDepth 100000
set_option maxHeartbeats 8000000
namespace K31
open PySem PySem.Spec PyProof.Rows L2 Evl StX
section
variable {P : Program} {w : World} {K : PySem.W.Frag} {mg : Str → Option Value} {base : Heap}
theorem rw_ex {r sc : Addr} {H H' : Hp} (h : Rw r sc H) (e : Ex H H') : Rw r sc H' := by
  obtain ⟨a, b, c, ha, hr⟩ := h
  exact ⟨a, b, c, ha, e _ _ hr⟩
theorem tk {σ : L2.St} {H : Hp} {r sc : Addr} {ns : List Int} {m : Nat} {ta : TA} {Q : VK} {E : XK} (h : EvA ta σ H [.ref r, vI m]) (h1 : 1 ≤ m) (h2 : m ≤ 1000) (hrw : Rw r sc H) (hsq : SqL K H sc (ns.map V.int))
    (q : ∀ k H', k < m → Mv r H H' → Rw r sc H' → SqL K H' sc (ns.map V.int) → Q (vI k) H') : tCall (spTaken K) [] E ta σ H Q := h H (Ex.refl H) _ fun H1 e1 => by
  obtain ⟨i, seed, rest, hi, hr⟩ := hrw
  exact ⟨r, sc, ns, m, rfl, h1, h2, ⟨i, seed, rest, hi, e1 _ _ hr⟩, sq_ex hsq e1, fun k H' hk mv rw' => q k H' hk ((ex_mv e1).trans mv) rw' (sq_mv hsq ⟨i, seed, rest, hi, hr⟩ ((ex_mv e1).trans mv))⟩
/-! ### _law_word -/
def spWord (K : PySem.W.Frag) : Sp := fun vs H Q _ => ∃ (r sc : Addr) (ns : List Int) (most m : Nat), vs = [.ref r, vI most, vI m] ∧ most ≤ 30 ∧ 1 ≤ m ∧ m ≤ 4 ∧ Rw r sc H ∧ SqL K H sc (ns.map V.int) ∧
  ∀ x H', (∀ c ∈ x, 97 ≤ c ∧ c ≤ 100) → x.length ≤ most → Mv r H H' → Rw r sc H' → SqL K H' sc (ns.map V.int) → Q (.str (wd x)) H'
theorem scLWord : FnScope ["_law_row", "_law_most", "_law_many", "_law_found", "_law_last", "_law_turn"] ["_law_row", "_law_most", "_law_many"] (defScope sLWord) := ⟨rfl, rfl, rfl, by decide +kernel, rfl, by decide +kernel, by decide +kernel⟩
theorem a_wd : ("a" : Str) = wd [97] := by decide +kernel
theorem e_wd : ("" : Str) = wd [] := by decide +kernel
theorem abcd_at (k : Nat) (h : k < 4) : ([97, 98, 99, 100] : List Nat)[k]? = some (97 + k) := by
  have : k = 0 ∨ k = 1 ∨ k = 2 ∨ k = 3 := by omega
  rcases this with rfl | rfl | rfl | rfl <;> rfl
theorem c_lword (D : Dfn K mg "_law_word" sLWord ["_law_row", "_law_most", "_law_many"]) (Y : Nms mg) (Ct : Cal P w K mg base 1 "_law_taken" ["_law_row", "_law_many"] (spTaken K)) : Cal P w K mg base 2 "_law_word" ["_law_row", "_law_most", "_law_many"] (spWord K) := by
  refine cal_mkS D scLWord (fun vs H Q E h => by obtain ⟨r, sc, ns, most, m, rfl, _⟩ := h; rfl) fun f cdv A outer s H vs Q E hr hp => ?_
  obtain ⟨r, sc, ns, most, m, rfl, hmost, hm1, hm, hrw, hsq, q⟩ := hp
  refine ⟨_, pss_cons (ps_asg (pe_tup (pa_cons pe_str (pa_cons pe_str pa_nil))) (pg_tup rfl (pgs_cons (pg_name (i := 3) scLWord.nd rfl (.inl rfl)) (pgs_cons (pg_name (i := 4) scLWord.nd rfl (.inl rfl)) pgs_nil))))
    (pss_cons (ps_for PassesOwn.never rfl (pi_range1 (by rfl) Y.range (pa_cons (pe_cal Ct hr (by rfl) (pa_cons (pv 0) (pa_cons (pe_op op_add (pv 1) pe_int) pa_nil))) pa_nil)) (pg_name (i := 5) scLWord.nd rfl (.inl rfl))
      (pss_cons (ps_if (pt_cmpR op_gt (pe_cal Ct hr (by rfl) (pa_cons (pv 0) (pa_cons pe_int pa_nil))) pe_int (nomark _)) (pss_one (ps_set (i := 4) scLWord.nd rfl (.inl rfl) (pe_ix ix_str pe_str (pe_cal Ct hr (by rfl) (pa_cons (pv 0) (pa_cons (pv 2) pa_nil))) (fun _ _ => rfl)))) pss_nil)
      (pss_one (ps_set (i := 3) scLWord.nd rfl (.inl rfl) (pe_op op_add_str (pv 3) (pv 4))))))
    (pss_one (ps_ret (pv 3)))), ?_⟩
  refine ⟨sz_of (by show 2 ≤ 100000; decide), fun pt hpt => g_pair rfl upd_same ?_⟩
  have x0 : Ex H (upd H pt (.tup [.str "", .str "a"])) := Ex.new hpt
  have go : ∀ (L : L2.St) (D : Ends), L = [some (.ref r), some (vI most), some (vI m), some (.str (wd [])), some (.str (wd [97])), none] → (∀ v H', D.rt v H' = Q v H') → (tSeq (tFor (iRng1 (tCons (tCall (spTaken K) [] E0 (tCons (tVar 0) (tCons (tOp (rI0 fun i j => .int (i + j)) (tVar 1) (tC (.int 1))) tNil))) tNil)) (gName 5)
      (tSeq (tIfS (tTest (tOp (rI0 fun i j => .bl (decide (j < i))) (tCall (spTaken K) [] E0 (tCons (tVar 0) (tCons (tC (.int 3)) tNil))) (tC (.int 0)))) (tAsg (tOp rIxS (tC (.str "abcd")) (tCall (spTaken K) [] E0 (tCons (tVar 0) (tCons (tVar 2) tNil)))) (gName 4)) tNext) (tAsg (tOp rAddT (tVar 3) (tVar 4)) (gName 3)))) (tRet (tVar 3))) D L (upd H pt (.tup [.str "", .str "a"])) := ?_
  · refine go _ _ ?_ fun _ _ => rfl
    rw [← a_wd, ← e_wd]
    rfl
  intro L D hL hD
  subst hL
  refine tk (ns := ns) (m := most + 1) (ea_cons (ev_var rfl) (ea_cons (ev_is (ev_I2 (ev_var rfl) ev_c) rfl) ea_nil)) (by omega) (by omega) (rw_ex hrw x0) (sq_ex hsq x0) fun k H1 hk mv1 rw1 sq1 => ⟨(k : Int), rfl, by omega, by omega, for_range (lo := 0) (n := k) (fun i σ' H' => ∃ (x : List Nat) (l : Nat) (y : Option V), (∀ c ∈ x, 97 ≤ c ∧ c ≤ 100) ∧ x.length = i ∧ 97 ≤ l ∧ l ≤ 100 ∧ σ' = [some (.ref r), some (vI most), some (vI m), some (.str (wd x)), some (.str (wd [l])), y] ∧ Mv r H H' ∧ Rw r sc H' ∧ SqL K H' sc (ns.map V.int))
    ⟨[], 97, none, fun c h => absurd h (by simp), rfl, by decide, by decide, rfl, (ex_mv x0).trans mv1, rw1, sq1⟩ (fun i σ' H' hi hp => ?_) fun σ' H' hp => ?_⟩
  · obtain ⟨x, l, y, hx, hxl, hl1, hl2, rfl, mv2, rw2, sq2⟩ := hp
    have fin : ∀ (l : Nat) (H3 : Hp), 97 ≤ l → l ≤ 100 → Mv r H H3 → Rw r sc H3 → SqL K H3 sc (ns.map V.int) → ∀ D2 : Ends, (∀ σ' H', (∃ (x : List Nat) (l : Nat) (y : Option V), (∀ c ∈ x, 97 ≤ c ∧ c ≤ 100) ∧ x.length = i + 1 ∧ 97 ≤ l ∧ l ≤ 100 ∧ σ' = [some (.ref r), some (vI most), some (vI m), some (.str (wd x)), some (.str (wd [l])), y] ∧ Mv r H H' ∧ Rw r sc H' ∧ SqL K H' sc (ns.map V.int)) → D2.nx σ' H') →
        tAsg (tOp rAddT (tVar 3) (tVar 4)) (gName 3) D2 [some (.ref r), some (vI most), some (vI m), some (.str (wd x)), some (.str (wd [l])), some (.int (0 + (i : Int)))] H3 := fun l H3 g1 g2 mv3 rw3 sq3 D2 hD2 => by
      refine s_asg (v := .str (wd (x ++ [l]))) (ev_addT (ev_var rfl) (ev_var rfl) (by simp; omega)) fun H4 e4 => hD2 _ _ ⟨x ++ [l], l, _, fun c hc => ?_, by simp [hxl], g1, g2, rfl, mv3.trans (ex_mv e4), ?_, sq_ex sq3 e4⟩
      · rcases List.mem_append.mp hc with hc | hc
        · exact hx c hc
        · rw [List.mem_singleton.mp hc]
          exact ⟨g1, g2⟩
      · exact rw_ex rw3 e4
    refine tk (ns := ns) (m := 3) (ea_cons (ev_var rfl) (ea_cons (ev_is ev_c rfl) ea_nil)) (by decide) (by decide) rw2 sq2 fun k2 H3 hk2 mv3 rw3 sq3 => ⟨(k2 : Int), 0, rfl, rfl, _, rfl, ?_⟩
    by_cases hb : (0 : Int) < (k2 : Int)
    · rw [decide_eq_true hb]
      refine iteT (tk (ns := ns) (m := m) (ea_cons (ev_var rfl) (ea_cons (ev_var rfl) ea_nil)) hm1 (by omega) rw3 sq3 fun k3 H4 hk3 mv4 rw4 sq4 => ⟨wd [97, 98, 99, 100], (k3 : Int), 97 + k3, congrArg V.str letters_wd, rfl, by rw [wd_len, sizeLine_eq]; decide, by rw [wd_tl]; exact atI_nat (abcd_at k3 (by omega)), ?_⟩)
      exact fin (97 + k3) H4 (by omega) (by omega) ((mv2.trans mv3).trans mv4) rw4 sq4 _ fun σ' H' h => h
    · rw [decide_eq_false hb]
      exact iteF (fin l H3 hl1 hl2 (mv2.trans mv3) rw3 sq3 _ fun σ' H' h => h)
  · obtain ⟨x, l, y, hx, hxl, hl1, hl2, rfl, mv2, rw2, sq2⟩ := hp
    refine s_ret (ev_var rfl) fun H4 e4 => ?_
    show D.rt _ _
    rw [hD]
    exact q x H4 hx (by omega) (mv2.trans (ex_mv e4)) (rw_ex rw2 e4) (sq_ex sq2 e4)
end
end K31

set_option maxRecDepth 100000
set_option maxHeartbeats 8000000
namespace K31
open PySem PySem.Spec PyProof.Rows L2 Evl StX
section
variable {K : PySem.W.Frag} {σ : L2.St} {H H' : Hp} {ta tb tc te tl : TE} {t tt : TT} {v x : V} {d : PyData} {ds es : List PyData} {g : TG}
theorem em_lcTA {α : Type} (emb : α → PyData) (L : List α) {vs : List Nat} (f : α → Bool) (v : α → PyData) (h : EvD tl σ H (.tuple (L.map emb))) (hz : L.length ≤ 40000) (hlf : ∀ a ∈ L, f a = true → LF (v a))
    (hs : ∀ a ∈ L, ∀ x H2, Ex H H2 → Ds H2 x (emb a) → ∀ R : L2.St → Hp → Prop, (∀ σ2, wipe σ2 vs = wipe σ vs → EvT tt σ2 H2 (f a) → (f a = true → EvD te σ2 H2 (v a)) → R σ2 H2) → g x (wipe σ vs) H2 R) :
    EvM (tLc (iTup K tl) g tt te vs) σ H ((L.filter f).map v) := fun H0 a Q q => h H0 a _ fun v0 H1 a1 c => by
  obtain ⟨p, xs, rfl, hp, hx⟩ := c.inj_tup
  refine ⟨p, rfl, ⟨xs, SqT.of hp⟩, fun Dl hD => ?_⟩
  refine lcG (walk_tup (xs := xs)) L (by have := hx.length; rw [List.length_map] at this; exact this) f v hz hlf H1 (fun H' e => SqT.of (e _ _ hp)) (fun i d x H2 H3 hi e2 y => ?_) Dl hD _ (fun H' ys e hD' hy => q Dl ys H' (fresh_back a1 hD) (a1.trans e) hD' hy)
  obtain ⟨y1, y2⟩ := y
  obtain ⟨d', hd1, hd2⟩ := (hx.mono e2).get y2
  rw [List.getElem?_map, hi] at hd1
  have e := Option.some.inj hd1
  subst e
  exact ⟨y1, hs d (List.mem_of_getElem? hi) x H2 ((a.trans a1).trans e2) hd2⟩
def cutD (ds : List PyData) (lo hi : Option Int) : List PyData := (ds.drop (HT.sIx ds.length 0 lo)).take (HT.sIx ds.length ds.length hi - HT.sIx ds.length 0 lo)
theorem ed_slA {tl th : TO} {lo hi : Option Int} (ha : EvD ta σ H (.tuple ds)) (h1 : EvO tl σ H lo) (h2 : EvO th σ H hi) : EvD (tSl (rSlA K) ta tl th) σ H (.tuple (cutD ds lo hi)) := fun H1 a Q q =>
  ha H1 a _ fun v H2 a2 c => h1 H2 (a.trans a2) _ fun H3 a3 => h2 H3 ((a.trans a2).trans a3) _ fun H4 a4 => by
    have c := c.mono (a3.trans a4)
    obtain ⟨p, xs, rfl, hp, hx⟩ := c.inj_tup
    have hl := hx.length
    have x4 := (a2.trans a3).trans a4
    refine ⟨p, xs, rfl, SqT.of hp, fun hw => q _ _ x4 ?_, fun _ z hz => q _ _ (x4.trans (Ex.new hz)) (.tup upd_same ?_)⟩
    · rw [hl] at hw
      have e : cutD ds lo hi = ds := by
        unfold cutD
        rw [hw.1, hw.2, List.drop_zero, Nat.sub_zero, List.take_length]
      rw [e]
      exact c
    · unfold cutV cutD
      rw [hl]
      exact ((hx.drop _).take _).mono (Ex.new hz)
theorem cut_lo {ds : List PyData} {k : Nat} : cutD ds (some (k : Int)) none = ds.drop k := by
  unfold cutD
  rw [HT.sIx_nat, HT.sIx_none]
  by_cases h : k ≤ ds.length
  · rw [Nat.min_eq_left h]
    exact List.take_of_length_le (by rw [List.length_drop]; omega)
  · rw [Nat.min_eq_right (by omega), List.drop_length, List.drop_eq_nil_of_le (by omega)]
    simp
theorem cut_hi {ds : List PyData} {k : Nat} : cutD ds none (some (k : Int)) = ds.take k := by
  unfold cutD
  rw [HT.sIx_nat, HT.sIx_none, List.drop_zero, Nat.sub_zero, List.take_eq_take_min (l := ds) (i := k)]
theorem inV_I (ns : List Nat) : inV (.int 0) (ns.map vI) = ns.any fun n => n == 0 := by
  unfold inV
  rw [List.any_map]
  refine congrArg (fun f => ns.any f) (funext fun n => ?_)
  show ((n : Int) == 0) = (n == 0)
  by_cases h : n = 0
  · subst h; rfl
  · rw [beq_false_of_ne h, beq_false_of_ne (by omega)]
theorem flat_I (ns : List Nat) : (ns.map vI).all flatV = true := by
  rw [List.all_map]
  exact List.all_eq_true.mpr fun _ _ => rfl
theorem ev_inI {neg : Bool} {ns : List Nat} (ha : Ev ta σ H (.int 0)) (hb : EvD tb σ H (.tuple (ns.map dI))) : Ev (tOp (rIn K neg) ta tb) σ H (.bl (if neg then !(ns.any fun n => n == 0) else ns.any fun n => n == 0)) := fun H1 a Q q =>
  ha H1 a _ fun H2 a2 => hb H2 (a.trans a2) _ fun v H3 a3 c => by
    obtain ⟨p, xs, rfl, hp, hx⟩ := c.inj_tup
    have e := dsAll_I hx
    subst e
    refine ⟨p, _, rfl, .inr (SqT.of hp), rfl, flat_I ns, ?_⟩
    rw [inV_I]
    exact q H3 (a2.trans a3)
end
end K31

set_option maxRecDepth 100000
set_option maxHeartbeats 8000000
namespace K31
/-! ### the finite check: every coin list of a word of at most nine letters -/
def tuples : List (List Nat) := (List.range 10).flatMap fun a => (List.range (10 - a)).flatMap fun b => (List.range (10 - a - b)).flatMap fun c => (List.range (10 - a - b - c)).map fun d => [a, b, c, d]
def tab0 : List (List Nat) := [[], [1], [1, 1], [1, 1, 1], [1, 1, 1, 1], [1, 1, 1, 1, 1], [1, 1, 1, 1, 1, 1], [1, 1, 1, 1, 1, 1, 1], [1, 1, 1, 1, 1, 1, 1, 1], [1, 1, 1, 1, 1, 1, 1, 1, 1]]
def tab1 : List (List Nat) := [[2], [2, 1], [2, 1, 1], [2, 1, 1, 1], [2, 1, 1, 1, 1], [2, 1, 1, 1, 1, 1], [2, 1, 1, 1, 1, 1, 1], [2, 1, 1, 1, 1, 1, 1, 1], [2, 2], [2, 2, 1]]
def tab2 : List (List Nat) := [[2, 2, 1, 1], [2, 2, 1, 1, 1], [2, 2, 1, 1, 1, 1], [2, 2, 1, 1, 1, 1, 1], [2, 2, 2], [2, 2, 2, 1], [2, 2, 2, 1, 1]]
def tab3 : List (List Nat) := [[2, 2, 2, 1, 1, 1], [2, 2, 2, 2], [2, 2, 2, 2, 1], [3], [3, 1], [3, 1, 1], [3, 1, 1, 1], [3, 1, 1, 1, 1]]
def tab4 : List (List Nat) := [[3, 1, 1, 1, 1, 1], [3, 1, 1, 1, 1, 1, 1], [3, 2], [3, 2, 1], [3, 2, 1, 1], [3, 2, 1, 1, 1], [3, 2, 1, 1, 1, 1], [3, 2, 2], [3, 2, 2, 1]]
def tab5 : List (List Nat) := [[3, 2, 2, 1, 1], [3, 2, 2, 2], [3, 3], [3, 3, 1], [3, 3, 1, 1], [3, 3, 1, 1, 1], [3, 3, 2]]
def tab6 : List (List Nat) := [[3, 3, 2, 1], [3, 3, 3], [4], [4, 1], [4, 1, 1], [4, 1, 1, 1], [4, 1, 1, 1, 1], [4, 1, 1, 1, 1, 1], [4, 2], [4, 2, 1], [4, 2, 1, 1]]
def tab7 : List (List Nat) := [[4, 2, 1, 1, 1], [4, 2, 2], [4, 2, 2, 1], [4, 3], [4, 3, 1], [4, 3, 1, 1], [4, 3, 2], [4, 4], [4, 4, 1]]
def table : List (List Nat) := tab0 ++ (tab1 ++ (tab2 ++ (tab3 ++ (tab4 ++ (tab5 ++ (tab6 ++ (tab7)))))))
def rowsOf (cs : List Nat) (e : Nat) : List (List Nat) := (rowsM (e + 1) cs.length).filter fun g => dot g cs == cs.sum + e
def chk1 (cs : List Nat) (e : Nat) : Bool :=
  if (e + 1) ^ cs.length > 4000 then true else
  ((pay cs e).getD e 0 == (rowsOf cs e).length) && (gapsM cs (cs.sum + e) == rowsOf cs e) && decide (maxG cs [([], cs.sum + e)] ≤ 20000) && ((pay cs (cs.sum + e)).getD e 0 == (rowsOf cs e).length)
def after (P : List Nat) (k : Nat) : Nat → Bool
  | 0 => true
  | j + 1 => (P.getD (k + j) 0 != 0) && after P k j
def chk2 (cs : List Nat) : Bool :=
  cs.all (fun c => decide (1 ≤ c)) &&
  (if gcdM cs == 1 then
    decide (1 ≤ cs.sum) && (match (missM cs).getLast? with
    | some k => ((pay cs 60).getD k 0 == 0) && after (pay cs 60) (k + 1) (60 - cs.sum - k)
    | none => after (pay cs 60) 0 (61 - cs.sum))
  else cs.isEmpty || (List.range 11).any fun j => (pay cs 60).getD (50 + j - cs.sum) 0 == 0)
theorem in_table : (tuples.all fun ns => table.contains (coinsR (lev ns) ns) && ((coinsR (lev ns) ns).sum == ns.sum)) = true := by decide +kernel
theorem all_app {f : List Nat → Bool} {A B : List (List Nat)} (a : A.all f = true) (b : B.all f = true) : (A ++ B).all f = true := by
  rw [List.all_append, a, b]
  rfl
theorem chk2_0 : tab0.all chk2 = true := by decide +kernel
theorem chk2_1 : tab1.all chk2 = true := by decide +kernel
theorem chk2_2 : tab2.all chk2 = true := by decide +kernel
theorem chk2_3 : tab3.all chk2 = true := by decide +kernel
theorem chk2_4 : tab4.all chk2 = true := by decide +kernel
theorem chk2_5 : tab5.all chk2 = true := by decide +kernel
theorem chk2_6 : tab6.all chk2 = true := by decide +kernel
theorem chk2_7 : tab7.all chk2 = true := by decide +kernel
theorem chk2_all : table.all chk2 = true := all_app chk2_0 (all_app chk2_1 (all_app chk2_2 (all_app chk2_3 (all_app chk2_4 (all_app chk2_5 (all_app chk2_6 (chk2_7)))))))
def chk1s (cs : List Nat) : Bool := (List.range 7).all fun e => chk1 cs e
theorem chk1_0 : tab0.all chk1s = true := by decide +kernel
theorem chk1_1 : tab1.all chk1s = true := by decide +kernel
theorem chk1_2 : tab2.all chk1s = true := by decide +kernel
theorem chk1_3 : tab3.all chk1s = true := by decide +kernel
theorem chk1_4 : tab4.all chk1s = true := by decide +kernel
theorem chk1_5 : tab5.all chk1s = true := by decide +kernel
theorem chk1_6 : tab6.all chk1s = true := by decide +kernel
theorem chk1_7 : tab7.all chk1s = true := by decide +kernel
theorem chk1_all : table.all chk1s = true := all_app chk1_0 (all_app chk1_1 (all_app chk1_2 (all_app chk1_3 (all_app chk1_4 (all_app chk1_5 (all_app chk1_6 (chk1_7)))))))
end K31

set_option maxRecDepth 100000
set_option maxHeartbeats 8000000
namespace K31
open PySem PySem.Spec PyProof.Rows L2 Evl StX
/-! ### what the check gives for a word of at most nine letters -/
theorem tally_tuples {x : List Nat} (h : ∀ c ∈ x, 97 ≤ c ∧ c ≤ 100) (hl : x.length ≤ 9) : tally x ∈ tuples := by
  have e := length_tally x h
  have e2 : (tally x).sum = x.count 97 + (x.count 98 + (x.count 99 + (x.count 100 + 0))) := rfl
  rw [e2] at e
  unfold tuples
  refine List.mem_flatMap.mpr ⟨x.count 97, List.mem_range.mpr (by omega), List.mem_flatMap.mpr ⟨x.count 98, List.mem_range.mpr (by omega), List.mem_flatMap.mpr ⟨x.count 99, List.mem_range.mpr (by omega), List.mem_map.mpr ⟨x.count 100, List.mem_range.mpr (by omega), rfl⟩⟩⟩⟩
theorem coins_table {x : List Nat} (h : ∀ c ∈ x, 97 ≤ c ∧ c ≤ 100) (hl : x.length ≤ 9) : coinsW x ∈ table ∧ x.length = (coinsW x).sum := by
  have a := List.all_eq_true.mp in_table _ (tally_tuples h hl)
  rw [Bool.and_eq_true] at a
  refine ⟨List.contains_iff_mem.mp a.1, ?_⟩
  have b : (coinsR (lev (tally x)) (tally x)).sum = (tally x).sum := by simpa using a.2
  unfold coinsW
  rw [b]
  exact length_tally x h
theorem chk1_of {cs : List Nat} {e : Nat} (h : cs ∈ table) (he : e < 7) (hp : (e + 1) ^ cs.length ≤ 4000) :
    (pay cs e).getD e 0 = (rowsOf cs e).length ∧ gapsM cs (cs.sum + e) = rowsOf cs e ∧ maxG cs [([], cs.sum + e)] ≤ 20000 ∧ (pay cs (cs.sum + e)).getD e 0 = (rowsOf cs e).length := by
  have a := List.all_eq_true.mp (List.all_eq_true.mp chk1_all cs h) e (List.mem_range.mpr he)
  unfold chk1 at a
  rw [if_neg (by omega)] at a
  simp only [Bool.and_eq_true, beq_iff_eq, decide_eq_true_eq] at a
  exact ⟨a.1.1.1, a.1.1.2, a.1.2, a.2⟩
theorem after_all (P : List Nat) (k : Nat) : ∀ n, after P k n = true → ∀ j, j < n → P.getD (k + j) 0 ≠ 0
  | 0, _, j, hj => absurd hj (Nat.not_lt_zero j)
  | n + 1, h, j, hj => by
    rw [after, Bool.and_eq_true] at h
    by_cases e : j = n
    · subst e
      simpa using h.1
    · exact after_all P k n h.2 j (by omega)
theorem chk2_one {cs : List Nat} (h : cs ∈ table) : ∀ c ∈ cs, 1 ≤ c := by
  have a := List.all_eq_true.mp chk2_all cs h
  unfold chk2 at a
  rw [Bool.and_eq_true] at a
  intro c hc
  simpa using List.all_eq_true.mp a.1 c hc
/-- behind the last that cannot be paid -/
theorem chk2_yes {cs : List Nat} (h : cs ∈ table) (hg : gcdM cs = 1) : 1 ≤ cs.sum ∧ (∀ k, (missM cs).getLast? = some k → (pay cs 60).getD k 0 = 0 ∧ ∀ j, j < 60 - cs.sum - k → (pay cs 60).getD (k + 1 + j) 0 ≠ 0) ∧
    ((missM cs).getLast? = none → ∀ j, j < 61 - cs.sum → (pay cs 60).getD j 0 ≠ 0) := by
  have a := List.all_eq_true.mp chk2_all cs h
  unfold chk2 at a
  rw [Bool.and_eq_true] at a
  have a := a.2
  rw [if_pos (by rw [hg]; rfl), Bool.and_eq_true] at a
  obtain ⟨a1, a2⟩ := a
  refine ⟨by simpa using a1, fun k hk => ?_, fun hn => ?_⟩
  · rw [hk] at a2
    have a2 : ((pay cs 60).getD k 0 == 0 && after (pay cs 60) (k + 1) (60 - cs.sum - k)) = true := a2
    rw [Bool.and_eq_true] at a2
    exact ⟨by simpa using a2.1, after_all _ _ _ a2.2⟩
  · rw [hn] at a2
    have a2 : after (pay cs 60) 0 (61 - cs.sum) = true := a2
    intro j hj
    have := after_all _ _ _ a2 j hj
    rwa [Nat.zero_add] at this
theorem chk2_no {cs : List Nat} (h : cs ∈ table) (hg : gcdM cs ≠ 1) : cs = [] ∨ ∃ j, j < 11 ∧ (pay cs 60).getD (50 + j - cs.sum) 0 = 0 := by
  have a := List.all_eq_true.mp chk2_all cs h
  unfold chk2 at a
  rw [Bool.and_eq_true] at a
  have a := a.2
  rw [if_neg (by simpa using hg), Bool.or_eq_true] at a
  rcases a with a | a
  · exact .inl (by simpa using a)
  · obtain ⟨j, hj, e⟩ := List.any_eq_true.mp a
    exact .inr ⟨j, List.mem_range.mp hj, by simpa using e⟩
/-- the law's rows are those that grow to the size -/
theorem rows_eq {x : List Nat} (hx : ∀ c ∈ x, 97 ≤ c ∧ c ≤ 100) (hl : x.length ≤ 9) (e : Nat) : (rowsM (e + 1) (many x)).filter (fun g => (grown x g).length == (core x).length + e) = rowsOf (coinsW (core x)) e := by
  have hm : (coinsW (core x)).length = many x := by
    unfold coinsW
    rw [coinsR_length, lev_core hx]
  have hs := (coins_table (core_letters hx) (Nat.le_trans (core_len hx) hl)).2
  unfold rowsOf
  rw [hm, ← hs]
  refine List.filter_congr fun g hg => ?_
  obtain ⟨g1, g2⟩ := rowsM_mem _ _ g hg
  have e1 := grown_len hx g1 fun y hy => (g2 y hy).1
  have e2 := sumTo_dot g (tally (core x)) fun n hn => by
    rw [g1, ← lev_core hx]
    exact lev_le _ _ hn
  rw [e1, e2, g1, ← lev_core hx]
  rfl
/-- the counts behind one another -/
theorem countsM_get {n : Nat} {cs : List Nat} {most s : Nat} (h : s ≤ most) : (countsM n cs most)[s]? = some (if n ≤ s then (pay cs most).getD (s - n) 0 else 0) := by
  unfold countsM
  rw [List.getElem?_map, List.getElem?_range (by omega)]
  rfl
theorem countsM_len (n : Nat) (cs : List Nat) (most : Nat) : (countsM n cs most).length = most + 1 := by
  unfold countsM
  rw [List.length_map, List.length_range]
theorem countsM_low {n : Nat} {cs : List Nat} {most : Nat} : ∀ y ∈ (countsM n cs most).take n, y = 0 := fun y hy => by
  obtain ⟨i, hi⟩ := List.mem_iff_getElem?.mp hy
  rw [List.getElem?_take] at hi
  split at hi
  · next h =>
    have hl : i < (countsM n cs most).length := (List.getElem?_eq_some_iff.mp hi).1
    rw [countsM_len] at hl
    rw [countsM_get (by omega), if_neg (by omega)] at hi
    exact (Option.some.inj hi).symm
  · cases hi
theorem path_yes {n : Nat} {cs : List Nat} (h : cs ∈ table) (hn : n = cs.sum) (hn9 : n ≤ 9) (hg : gcdM cs = 1) : ∃ F : Nat, missD n cs = .int (F : Int) ∧ F ≤ 60 ∧ (countsM n cs 60)[F]? = some 0 ∧ ∀ y ∈ (countsM n cs 60).drop (F + 1), y ≠ 0 := by
  obtain ⟨h1, h2, h3⟩ := chk2_yes h hg
  rw [← hn] at h1 h2 h3
  have hm : missD n cs = .int ((n : Int) + (match (missM cs).getLast? with | some k => (k : Int) | none => -1)) := if_pos hg
  rw [hm]
  cases hk : (missM cs).getLast? with
  | some k =>
    have k40 : k ≤ 40 := by
      have a := List.mem_of_getLast? hk
      unfold missM at a
      have := List.mem_range.mp (List.mem_filter.mp a).1
      omega
    obtain ⟨g1, g2⟩ := h2 k hk
    refine ⟨n + k, congrArg PyData.int (Int.natCast_add n k).symm, by omega, ?_, fun y hy => ?_⟩
    · rw [countsM_get (by omega), if_pos (by omega), Nat.add_sub_cancel_left, g1]
    · obtain ⟨i, hi⟩ := List.mem_iff_getElem?.mp hy
      rw [List.getElem?_drop] at hi
      have hl : n + k + 1 + i < (countsM n cs 60).length := (List.getElem?_eq_some_iff.mp hi).1
      rw [countsM_len] at hl
      rw [countsM_get (by omega), if_pos (by omega)] at hi
      have e := Option.some.inj hi
      rw [← e, show n + k + 1 + i - n = k + 1 + i by omega]
      exact g2 i (by omega)
  | none =>
    refine ⟨n - 1, congrArg PyData.int (by show (n : Int) + -1 = ((n - 1 : Nat) : Int); omega), by omega, ?_, fun y hy => ?_⟩
    · rw [countsM_get (by omega), if_neg (by omega)]
    · obtain ⟨i, hi⟩ := List.mem_iff_getElem?.mp hy
      rw [List.getElem?_drop] at hi
      have hl : n - 1 + 1 + i < (countsM n cs 60).length := (List.getElem?_eq_some_iff.mp hi).1
      rw [countsM_len] at hl
      rw [countsM_get (by omega), if_pos (by omega)] at hi
      have e := Option.some.inj hi
      rw [← e, show n - 1 + 1 + i - n = i by omega]
      exact h3 hk i (by omega)
theorem path_no {n : Nat} {cs : List Nat} (h : cs ∈ table) (hn : n = cs.sum) (hn9 : n ≤ 9) (hg : gcdM cs ≠ 1) : missD n cs = .none ∧ (cs = [] ∨ 0 ∈ (countsM n cs 60).drop 50) := by
  refine ⟨if_neg hg, ?_⟩
  rcases chk2_no h hg with a | ⟨j, hj, e⟩
  · exact .inl a
  · rw [← hn] at e
    refine .inr (List.mem_iff_getElem?.mpr ⟨j, ?_⟩)
    rw [List.getElem?_drop, countsM_get (by omega), if_pos (by omega), e]
end K31

set_option maxRecDepth 100000
set_option maxHeartbeats 16000000
namespace K31
open PySem PySem.Spec PyProof.Rows L2 Evl StX
theorem grown_le {x g : List Nat} (h : ∀ c ∈ x, 97 ≤ c ∧ c ≤ 100) (hl : g.length = many x) (hg : ∀ y ∈ g, 1 ≤ y ∧ y ≤ 20) (hm : many x ≤ 40) : (grown x g).length ≤ 100000 := by
  rw [grown_len h hl fun y hy => (hg y hy).1]
  have b := fun n => sumTo_bound g (fun y hy => (hg y hy).2) n
  have b1 := b ((core x).count 97)
  have b2 := b ((core x).count 98)
  have b3 := b ((core x).count 99)
  have b4 := b ((core x).count 100)
  show sumTo g _ + (sumTo g _ + (sumTo g _ + (sumTo g _ + 0))) ≤ _
  omega
theorem al_I (n : Nat) (cs : List Nat) (h : cs.length ≤ 30000) : Al (n + 1) (.tuple (cs.map dI)) := .tup (fun d hd => by
  obtain ⟨c, _, rfl⟩ := List.mem_map.mp hd
  exact .int _ _) (by rw [List.length_map]; exact h)
section
variable {P : Program} {w : World} {K : PySem.W.Frag} {mg : Str → Option Value} {base : Heap}
theorem ed_slHi {σ : L2.St} {H : Hp} {ta : TE} {th : TO} {ns : List Nat} {k : Nat} (ha : EvD ta σ H (.tuple (ns.map dI))) (h2 : EvO th σ H (some (k : Int))) : EvD (tSl (rSlA K) ta tNoPart th) σ H (.tuple ((ns.take k).map dI)) := by
  have h := ed_slA (K := K) ha eo_none h2
  rw [cut_hi, ← List.map_take] at h
  exact h
theorem ed_slLo {σ : L2.St} {H : Hp} {ta : TE} {tl : TO} {ns : List Nat} {k : Nat} (ha : EvD ta σ H (.tuple (ns.map dI))) (h1 : EvO tl σ H (some (k : Int))) : EvD (tSl (rSlA K) ta tl tNoPart) σ H (.tuple ((ns.drop k).map dI)) := by
  have h := ed_slA (K := K) ha h1 eo_none
  rw [cut_lo, ← List.map_drop] at h
  exact h
theorem q_parD {i j : Nat} {ta : TA} {tz : TS} {D : Ends} {σ : L2.St} {H : Hp} {d1 d2 : PyData} (h : EvDA ta σ H [d1, d2]) (k : ∀ v w H1, Ex H H1 → Ds H1 v d1 → Ds H1 w d2 → tz D ((σ.set i (some v)).set j (some w)) H1) : tSeq (tPar i j ta) tz D σ H :=
  h H (Ex.refl H) _ fun vs H1 e hvs => by
    cases hvs with
    | cons h9 hvs =>
      cases hvs with
      | cons h10 hvs =>
        cases hvs
        exact ⟨_, _, rfl, k _ _ H1 e h9 h10⟩
abbrev NL : List Str := ["_law_script", "_law_row", "_law_core_here", "_law_many", "_law_due", "_law_size", "_law_top", "_law_rows_here", "_law_told", "_law_path", "_law_found", "_law_letter", "_law_level", "_law_gaps_here", "_law_one"]
theorem scLaw : FnScope NL ["_law_script"] (defScope sLaw) := ⟨rfl, rfl, rfl, by decide +kernel, rfl, by decide +kernel, by decide +kernel⟩
def spLaw (K : PySem.W.Frag) : Sp := fun vs H Q _ => ∃ (a : Addr) (ns : List Int), vs = [.ref a] ∧ SqL K H a (ns.map V.int) ∧ ∀ H', Q (.bl true) H'
theorem fn_mkS {x : Str} {st : Stmt} {f : Addr} {fd : FuncData} {N ps : List Str} {k : Nat} {sp : Sp} (F : Fun K x x st f fd) (S : FnScope N ps (defScope st)) (hl : ∀ vs H Q E, sp vs H Q E → vs.length = ps.length)
    (body : ∀ (cdv : Value) (A : Around) (outer : List Env) (s : Shared) (H : Hp) (vs : List V) (Q : VK) (E : XK), Room k (A.deeper (envOfC x (defScope st) s.heap.objs.size f cdv)) → sp vs H Q E →
      ∃ t, PSs (cxOf CX0 P w K mg base N x (defScope st) f cdv A outer s H E).nox (defBody st) t ∧ t { nx := fun _ H' => Q .non H', rt := Q } (start N vs) H) : FnOk P w K mg base CX0 (k + 1) f fd ps sp :=
  F.ok S (fun vs H Q E h => hl vs H Q E h) fun cdv A outer s H vs Q E hr h => body cdv A outer s H vs Q E hr h
theorem ok_law {f : Addr} {fd : FuncData} (F : Fun K "law" "law" sLaw f fd) (Y : Nms mg)
    (Ct : Cal P w K mg base 1 "_law_taken" ["_law_row", "_law_many"] (spTaken K)) (Cw : Cal P w K mg base 2 "_law_word" ["_law_row", "_law_most", "_law_many"] (spWord K))
    (Cc : Cal P w K mg base 3 "_law_core" ["_law_word_here"] (SpF preCore)) (Cg : Cal P w K mg base 3 "_law_gaps" ["_law_word_here"] (SpF preLGaps))
    (Co : Cal P w K mg base 5 "coins" ["word"] (SpF preCoins)) (Ca : ∀ n, Cal P w K mg base (n + 1) "_law_alike" ["_law_found", "_law_due"] (SpF (preAl n)))
    (Cp : Cal P w K mg base 1 "_law_power" ["_law_one", "_law_times"] (SpF prePower)) (Cr : Cal P w K mg base 1 "_law_rows" ["_law_most"] (SpF preRows)) (Cn : Cal P w K mg base 2 "_law_grown" ["_law_bare", "_law_widths"] (SpF preGrown))
    (Cl : Cal P w K mg base 5 "count_of_length" ["word", "size"] (SpF preCount)) (Cs : Cal P w K mg base 6 "gaps_of_length" ["word", "size"] (SpF preGaps))
    (Ck : Cal P w K mg base 5 "counts_to" ["word", "most"] (SpF preCounts)) (Cm : Cal P w K mg base 5 "greatest_missing" ["word"] (SpF preMiss)) : FnOk P w K mg base CX0 7 f fd ["_law_script"] (spLaw K) := by
  refine fn_mkS F scLaw (fun vs H Q E h => by obtain ⟨a, ns, rfl, _⟩ := h; rfl) fun cdv A outer s H vs Q E hr hp => ?_
  obtain ⟨a, ns, rfl, hsq, q⟩ := hp
  refine' ⟨_, pss_cons ?s1 (pss_cons ?s2 (pss_cons ?s3 (pss_cons ?s4 (pss_cons ?s5 (pss_cons ?s6 (pss_cons ?s7 (pss_cons ?s8 (pss_cons ?s9 (pss_cons ?s10 (pss_cons ?s11 (pss_cons ?s12 (pss_cons ?s13 (pss_cons ?s14 (pss_one ?s15)))))))))))))), ?zz⟩
  case s1 =>
    exact ps_set (i := 1) scLaw.nd rfl (.inl rfl) (pe_lst (pa_cons (pv 0) (pa_cons pe_int (pa_cons pe_int (pa_cons pe_int pa_nil)))))
  case s2 =>
    exact ps_set (i := 2) scLaw.nd rfl (.inr rfl) (pe_cal Cc (hr.mono (by decide)) (by rfl) (pa_cons (pe_cal Cw (hr.mono (by decide)) (by rfl) (pa_cons (pv 1) (pa_cons pe_int (pa_cons (pe_op op_add pe_int (pe_cal Ct (hr.mono (by decide)) (by rfl) (pa_cons (pv 1) (pa_cons pe_int pa_nil)))) pa_nil)))) pa_nil))
  case s3 =>
    exact ps_set (i := 3) scLaw.nd rfl (.inl rfl) (pe_callB call_len (by rfl) Y.len PySem.boot_len (pa_cons (pe_cal Cg (hr.mono (by decide)) (by rfl) (pa_cons (pv 2) pa_nil)) pa_nil))
  case s4 =>
    exact ps_set (i := 4) scLaw.nd rfl (.inl rfl) (pe_callTy call_tuple_of (by rfl) Y.tuple (by decide +kernel) (pa_cons (pe_lc (own := [("_law_level", 12)]) (g := gName 12) (te := tCB (rLenX K) (tCons (tLc (iStr (tC (.str "abcd"))) (gName 11) (tTest (tOp (rI0 fun i j => .bl (decide (j ≤ i))) (tM1 rCountT (tVar 2) (tVar 11)) (tVar 12))) (tC (.int 1)) [11]) tNil)) rfl scLaw.nd (pi_range2 (by rfl) Y.range (pa_cons pe_int (pa_cons (pe_op op_add (pv 3) pe_int) pa_nil))) (blkOk_by (N := NL) (sc := defScope sLaw) (by decide +kernel)) (fun _ _ _ _ _ => pg_name (i := 12) scLaw.nd rfl (.inr rfl) (.inl rfl)) (fun _ _ _ _ _ => pts_nil)
        (fun _ _ _ _ _ => pe_callB call_len (by rfl) Y.len PySem.boot_len (pa_cons (pe_lc (own := [("_law_letter", 11)]) (g := gName 11) rfl scLaw.nd (pi_str pe_str) (blkOk_by (N := NL) (sc := relS _ (defScope sLaw)) (by decide +kernel)) (fun _ _ _ _ _ => pg_name (i := 11) scLaw.nd rfl (.inl rfl) (.inr rfl)) (fun _ _ _ _ _ => pts_one (pt_cmpR op_ge (pe_m1 PySem.F.slot_str_count PySem.F.type_str_count mt_count (pv 2) (pv 11)) (pv 12) (nomark _)))
          (fun _ _ _ _ _ => pe_int)) pa_nil))) pa_nil))
  case s5 =>
    exact ps_if (pt_not (pt_val (pe_cal (Ca 1) (hr.mono (by decide)) (by rfl) (pa_cons (pe_cal Co (hr.mono (by decide)) (by rfl) (pa_cons (pv 2) pa_nil)) (pa_cons (pv 4) pa_nil))))) (pss_one ps_never) pss_nil
  case s6 =>
    exact ps_set (i := 5) scLaw.nd rfl (.inr rfl) (pe_op op_add (pe_callB call_len (by rfl) Y.len PySem.boot_len (pa_cons (pv 2) pa_nil)) (pe_cal Ct (hr.mono (by decide)) (by rfl) (pa_cons (pv 1) (pa_cons pe_int pa_nil))))
  case s7 =>
    exact ps_set (i := 6) scLaw.nd rfl (.inl rfl) (pe_op op_add (pe_op op_sub (pv 5) (pe_callB call_len (by rfl) Y.len PySem.boot_len (pa_cons (pv 2) pa_nil))) pe_int)
  case s8 =>
    exact ps_if (pt_cmpR op_gt (pe_cal Cp (hr.mono (by decide)) (by rfl) (pa_cons (pv 6) (pa_cons (pv 3) pa_nil))) pe_int (nomark _)) (pss_one (ps_ret pe_bl)) pss_nil
  case s9 =>
    exact ps_setLc (i := 7) (own := [("_law_gaps_here", 13)]) (g := gName 13) (te := tVar 13) rfl scLaw.nd rfl rfl (sw_true rfl rfl rfl (by decide +kernel)) (pi_list (pe_cal Cr (hr.mono (by decide)) (by rfl) (pa_cons (pe_op op_rep (pe_lst (pa_cons (pv 6) pa_nil)) (pv 3)) pa_nil))) (blkOk_by (N := NL) (sc := defScope sLaw) (by decide +kernel))
        (fun _ _ _ _ _ => pg_name (i := 13) scLaw.nd rfl (.inl rfl) (.inr rfl)) (tt := tTest (tOp rEq (tCB (rLenX K) (tCons (tCall (SpF preGrown) [] E0 (tCons (tVar 2) (tCons (tVar 13) tNil))) tNil)) (tVar 5))) (fun _ _ _ _ _ => pts_one (pt_cmpR op_eq (pe_callB call_len (by rfl) Y.len PySem.boot_len (pa_cons (pe_cal Cn (hr.mono (by decide)) (by rfl) (pa_cons (pv 2) (pa_cons (pv 13) pa_nil))) pa_nil)) (pv 5) (nomark _))) (fun _ _ _ _ _ => pv 13)
  case s10 =>
    exact ps_if (pt_not (pt_val (pe_cal (Ca 3) (hr.mono (by decide)) (by rfl) (pa_cons (pe_lst (pa_cons (pe_cal Cl (hr.mono (by decide)) (by rfl) (pa_cons (pv 2) (pa_cons (pv 5) pa_nil))) (pa_cons (pe_cal Cs hr (by rfl) (pa_cons (pv 2) (pa_cons (pv 5) pa_nil))) pa_nil))) (pa_cons (pe_lst (pa_cons (pe_callB call_len (by rfl) Y.len PySem.boot_len (pa_cons (pv 7) pa_nil)) (pa_cons (pv 7) pa_nil))) pa_nil))))) (pss_one ps_never) pss_nil
  case s11 =>
    exact ps_set (i := 8) scLaw.nd rfl (.inl rfl) (pe_cal Ck (hr.mono (by decide)) (by rfl) (pa_cons (pv 2) (pa_cons (pv 5) pa_nil)))
  case s12 =>
    exact ps_if (PW.pt (pw_or (pt_cmpR op_ne (pe_callB call_len (by rfl) Y.len PySem.boot_len (pa_cons (pv 8) pa_nil)) (pe_op op_add (pv 5) pe_int) (nomark _))
        (pw_or (pt_cmpR op_ne (pe_ix ix_tup (pv 8) (pe_un un_neg pe_int) (fun _ _ => rfl)) (pe_callB call_len (by rfl) Y.len PySem.boot_len (pa_cons (pv 7) pa_nil)) (nomark _))
        (pw_or1 (pt_cmpR (op_neD hr.units) (pe_lc (own := [("_law_one", 14)]) (g := gName 14) (te := tVar 14) rfl scLaw.nd (pi_tup (pe_slice sl_tupA (pv 8) po_none (po_some (pe_callB call_len (by rfl) Y.len PySem.boot_len (pa_cons (pv 2) pa_nil))))) (blkOk_by (N := NL) (sc := defScope sLaw) (by decide +kernel))
          (fun _ _ _ _ _ => pg_name (i := 14) scLaw.nd rfl (.inl rfl) (.inr rfl)) (tt := tTest (tOp rNe (tVar 14) (tC (.int 0)))) (fun _ _ _ _ _ => pts_one (pt_cmpR op_ne (pv 14) pe_int (nomark _))) (fun _ _ _ _ _ => pv 14)) (pe_lst pa_nil) (nomark _)))))) (pss_one ps_never) pss_nil
  case s13 =>
    exact ps_par (i := 9) (j := 10) rfl scLaw.nd rfl rfl (by decide) rfl rfl (pa_cons (pe_cal Ck (hr.mono (by decide)) (by rfl) (pa_cons (pv 2) (pa_cons pe_int pa_nil))) (pa_cons (pe_cal Cm (hr.mono (by decide)) (by rfl) (pa_cons (pv 2) pa_nil)) pa_nil)) (by rfl)
  case s14 =>
    exact ps_if (pt_cmpR op_isN (pv 10) pe_non (nomark _)) (pss_one (ps_ret (pe_or (pe_cmpR op_eq (pv 2) pe_str (nomark _)) (pe_one (pe_cmpR op_in_seq pe_int (pe_slice sl_tupA (pv 9) (po_some pe_int) po_none) (by rfl)))))) pss_nil
  case s15 =>
    exact ps_ret (pe_and (pe_cmpR op_eq (pe_ix ix_tup (pv 9) (pv 10) (fun _ _ => rfl)) pe_int (nomark _)) (pe_one (pe_cmpR op_notIn_seq pe_int (pe_slice sl_tupA (pv 9) (po_some (pe_op op_add (pv 10) pe_int)) po_none) (by rfl))))
  -- the row
  refine ⟨.ref a, rfl, sz_of (by show 4 ≤ 100000; decide), fun r hr0 => ?_⟩
  have x0 : Ex H (upd H r (.lst [.ref a, .int 0, .int 4631, .int 0])) := Ex.new hr0
  have rw0 : Rw r a (upd H r (.lst [.ref a, .int 0, .int 4631, .int 0])) := ⟨0, 4631, 0, by decide, upd_same⟩
  have sq0 := sq_ex hsq x0
  change tSeq _ _ _ [some (.ref a), some (.ref r), none, none, none, none, none, none, none, none, none, none, none, none, none] (upd H r (.lst [.ref a, .int 0, .int 4631, .int 0]))
  generalize upd H r (.lst [.ref a, .int 0, .int 4631, .int 0]) = H0 at rw0 sq0
  -- the core
  refine ⟨.ref r, rfl, tk (ns := ns) (m := 4) (ea_cons (ev_var rfl) (ea_cons (ev_is ev_c rfl) ea_nil)) (by decide) (by decide) rw0 sq0 fun k H1 hk mv1 rw1 sq1 => ⟨1, k, rfl, rfl, ⟨r, a, ns, 9, 1 + k, ?_, by decide, by omega, by omega, rw1, sq1, fun x H2 hx hl mv2 rw2 sq2 => ⟨[.str (wd x)], .str (wd (core x)), .cons (.str _) .nil, ⟨x, rfl, ⟨hx, by omega⟩, rfl⟩, fun v H3 e3 hv => ?_⟩⟩⟩⟩
  · show [V.ref r, .int 9, .int (1 + (k : Int))] = [V.ref r, .int ((9 : Nat) : Int), .int ((1 + k : Nat) : Int)]
    rw [Int.natCast_add]
    rfl
  cases hv
  have rw3 := rw_ex rw2 e3
  have sq3 := sq_ex sq2 e3
  have hwd : Wd x := ⟨hx, by omega⟩
  have wc := core_wd hwd
  have cc := core_core x
  have lc : (core x).length ≤ 9 := Nat.le_trans (core_len hx) hl
  obtain ⟨htab, hsum⟩ := coins_table (core_letters hx) lc
  have hlen : (coinsW (core x)).length = many x := by
    unfold coinsW
    rw [coinsR_length, lev_core hx]
  have hm9 : many x ≤ 9 := by
    have := coinsW_len (core x)
    omega
  change tSeq _ _ _ [some (.ref a), some (.ref r), some (.str (wd (core x))), none, none, none, none, none, none, none, none, none, none, none, none] H3
  refine q_asg (v := vI (many x)) (ev_is (ev_lenXL (ed_call (pre := preLGaps) (ea_Dc (ed_str (ev_var rfl)) ea_D) ⟨core x, rfl, wc, rfl⟩)) (congrArg vI (by rw [List.length_map, List.length_range, many_core, Nat.add_sub_cancel]))) fun H4 e4 => ?_
  refine q_asgD (d := .tuple ((coinsW (core x)).map dI)) (ed_tupleOf (ed_m ?_)) fun v4 H5 e5 h5 => ?_
  · have e : (coinsW (core x)).map dI = ((List.range (many x + 1 - 1)).filter fun _ => true).map fun l => dI ((tally (core x)).countP fun n => decide (l + 1 ≤ n)) := by
      unfold coinsW
      rw [coinsR_map, lev_core hx, filter_yes, List.map_map, Nat.add_sub_cancel]
      rfl
    rw [e]
    refine em_lcR _ _ (fun _ => true) _ (rg2 (lo := 1) (n := many x + 1) (ea_cons ev_c (ea_cons (ev_I2 (g := fun i j => .int (i + j)) (i := ((many x : Nat) : Int)) (j := 1) (ev_var rfl) ev_c) ea_nil)) (by omega)) (by omega) (fun _ _ _ => .int _) fun l hl2 H2 e2 R k => g_name (k _ rfl et_yes fun _ => ?_)
    have e3 : (tally (core x)).countP (fun n => decide (l + 1 ≤ n)) = ((([97, 98, 99, 100] : List Nat).filter fun ch => decide (l + 1 ≤ (core x).count ch)).map fun _ => dI 1).length := by
      rw [List.length_map, ← List.countP_eq_length_filter]
      rfl
    rw [e3]
    refine ed_I (ev_lenXL (ed_m ?_))
    refine em_lcS (fun ch => decide (l + 1 ≤ (core x).count ch)) (fun _ => dI 1) (ev_is ev_c (congrArg V.str letters_wd)) (by show 4 ≤ 40000; decide) (fun _ _ _ => .int _) fun ch hch H3 e4 R k => ?_
    refine g_name (k _ rfl (et_is (et_test (ev_I2 (ev_countT (ev_var rfl) (ev_var rfl)) (ev_var rfl))) ?_) fun _ => ed_int ev_c)
    show decide (((1 : Nat) : Int) + (l : Int) ≤ (((core x).count ch : Nat) : Int)) = decide (l + 1 ≤ (core x).count ch)
    by_cases h : l + 1 ≤ (core x).count ch
    · rw [decide_eq_true h, decide_eq_true (by omega)]
    · rw [decide_eq_false h, decide_eq_false (by omega)]
  refine q_when (b := false) (et_not (a := true) (et_B (ev_bl (ed_call (pre := preAl 1) (ds := [.tuple ((coinsW (core x)).map dI), .tuple ((coinsW (core x)).map dI)]) (ea_Dc (ed_call (pre := preCoins) (ea_Dc (ed_str (ev_var rfl)) ea_D) ⟨core x, rfl, wc, cc, rfl⟩) (ea_Dc (ed_var rfl h5) ea_D)) ⟨_, rfl, al_I 0 _ (by omega), rfl⟩)))) (fun z => absurd z (by decide)) fun _ H6 e6 => ?_
  have x6 : Ex H3 H6 := (e4.trans e5).trans e6
  change (tOp (rI0 fun i j => .int (i + j)) (tCB (rLenX K) (tCons (tVar 2) tNil)) (tCall (spTaken K) [] E0 (tCons (tVar 1) (tCons (tC (.int 7)) tNil)))) _ H6 _
  refine (ev_lenW (K := K) (w := core x) (ev_var rfl) (by omega)) H6 (Ex.refl H6) _ fun H7 e7 => ?_
  refine tk (m := 7) (ns := ns) (ea_cons (ev_var rfl) (ea_cons (ev_is ev_c rfl) ea_nil)) (by decide) (by decide) (rw_ex rw3 (x6.trans e7)) (sq_ex sq3 (x6.trans e7)) fun e H8 he mv8 rw8 sq8 => ⟨((core x).length : Int), (e : Int), rfl, rfl, ?_⟩
  change tSeq _ _ _ [some (.ref a), some (.ref r), some (.str (wd (core x))), some (vI (many x)), some v4, some (vI ((core x).length + e)), none, none, none, none, none, none, none, none, none] H8
  refine q_asg (v := vI (e + 1)) (ev_is (ev_I2 (g := fun i j => .int (i + j)) (i := (((core x).length + e : Nat) : Int) - ((core x).length : Int)) (j := 1) (ev_I2 (g := fun i j => .int (i - j)) (i := (((core x).length + e : Nat) : Int)) (j := ((core x).length : Int)) (ev_var rfl) (ev_lenW (ev_var rfl) (by omega))) ev_c) (congrArg V.int (by omega))) fun H9 e9 => ?_
  refine q_when (b := decide ((4000 : Int) < (((e + 1) ^ many x : Nat) : Int))) (et_test (ev_I2 (g := fun i j => .bl (decide (j < i))) (i := (((e + 1) ^ many x : Nat) : Int)) (ev_int (ed_call (pre := prePower) (d := dI ((e + 1) ^ many x)) (ea_Dc (ed_I (n := e + 1) (ev_var rfl)) (ea_Dc (ed_I (n := many x) (ev_var rfl)) ea_D)) ⟨e + 1, many x, rfl, by omega, by omega, rfl⟩)) ev_c)) (fun _ H10 e10 => s_ret (v := .bl true) ev_c fun H11 _ => q H11) fun hb H10 e10 => ?_
  have hpow : (e + 1) ^ many x ≤ 4000 := by
    have := of_decide_eq_false hb
    omega
  obtain ⟨k1, k2, k3, k4⟩ := chk1_of htab he (by rw [hlen]; exact hpow)
  have hrl : (rowsOf (coinsW (core x)) e).length ≤ 4000 := by
    rw [← rows_eq hx hl e]
    refine Nat.le_trans (List.length_filter_le _ _) ?_
    rw [rowsM_len]
    exact hpow
  refine q_asgD (d := .list ((rowsOf (coinsW (core x)) e).map dT)) (ed_m ?_) fun v7 H11 e11 h11 => ?_
  · rw [← rows_eq hx hl e]
    refine em_lcA dT (rowsM (e + 1) (many x)) (fun g => (grown x g).length == (core x).length + e) dT (ed_call (pre := preRows) (ea_Dc (ed_m (em_rep (d := dI (e + 1)) (k := many x) (ed_m (em_lst (ea_Dc (ed_I (ev_var rfl)) ea_D) (by show 1 ≤ 100000; decide))) (ev_var rfl) (by omega))) ea_D) ⟨e + 1, many x, rfl, by omega, by omega, by omega, by omega, rfl⟩) (by rw [rowsM_len]; omega) (fun g _ _ => lf_T g) fun g hg y H2 e2 hy R k => ?_
    obtain ⟨g1, g2⟩ := rowsM_mem _ _ g hg
    have g20 : ∀ y ∈ g, 1 ≤ y ∧ y ≤ 20 := fun y hy => ⟨(g2 y hy).1, by have := (g2 y hy).2; omega⟩
    refine g_name (k _ rfl (et_is (et_test (ev_eqI (i := (((grown x g).length : Nat) : Int)) (j := (((core x).length + e : Nat) : Int)) (ev_lenW (ev_str (ed_call (pre := preGrown) (ds := [.str (wd (core x)), dT g]) (ea_Dc (ed_str (ev_var rfl)) (ea_Dc (ed_var rfl hy) ea_D)) ⟨x, g, rfl, hwd, g1, g20, rfl⟩)) (grown_le hx g1 g20 (by omega))) (ev_var rfl))) ?_) fun _ => ed_var rfl hy)
    by_cases h : (grown x g).length = (core x).length + e
    · rw [h, decide_eq_true rfl]
      exact (beq_self_eq_true _).symm
    · rw [decide_eq_false (by omega)]
      exact (beq_eq_false_iff_ne.mpr h).symm
  have hal : Al 3 (.list [dI (rowsOf (coinsW (core x)) e).length, .list ((rowsOf (coinsW (core x)) e).map dT)]) := .lst (fun d hd => by
    rcases List.mem_cons.mp hd with rfl | hd
    · exact .int _ _
    · rw [List.mem_singleton.mp hd]
      refine .lst (fun d hd => ?_) (by rw [List.length_map]; omega)
      obtain ⟨g, hg, rfl⟩ := List.mem_map.mp hd
      have hg2 : g ∈ rowsM (e + 1) (coinsW (core x)).length := (List.mem_filter.mp hg).1
      exact al_I 0 g (by rw [(rowsM_mem _ _ g hg2).1, hlen]; omega)) (by show 2 ≤ 30000; decide)
  refine q_when (b := false) (et_not (a := true) (et_B (ev_bl (ed_call (pre := preAl 3) (ds := [.list [dI (rowsOf (coinsW (core x)) e).length, .list ((rowsOf (coinsW (core x)) e).map dT)], .list [dI (rowsOf (coinsW (core x)) e).length, .list ((rowsOf (coinsW (core x)) e).map dT)]])
    (ea_Dc (ed_m (em_lst (ea_Dc (ed_call (pre := preCount) (ea_Dc (ed_str (ev_var rfl)) (ea_Dc (ed_I (n := (core x).length + e) (ev_var rfl)) ea_D)) ⟨core x, (core x).length + e, rfl, wc, cc, by omega, by omega, by rw [Nat.add_sub_cancel_left, k1]⟩) (ea_Dc (ed_call (pre := preGaps) (ea_Dc (ed_str (ev_var rfl)) (ea_Dc (ed_I (n := (core x).length + e) (ev_var rfl)) ea_D)) ⟨core x, (core x).length + e, rfl, wc, cc, by omega, by omega, by rw [Nat.add_sub_cancel_left, k1]; omega, chk2_one htab, by rw [hsum]; exact k3, by rw [hsum, k2]⟩) ea_D)) (by show 2 ≤ 100000; decide)))
      (ea_Dc (ed_m (em_lst (ea_Dc (ed_I (ev_is (ev_lenXL (ed_var rfl h11)) (congrArg vI (List.length_map ..)))) (ea_Dc (ed_var rfl h11) ea_D)) (by show 2 ≤ 100000; decide))) ea_D)) ⟨_, rfl, hal, rfl⟩)))) (fun z => absurd z (by decide)) fun _ H12 e12 => ?_
  refine q_asgD (d := .tuple ((countsM (core x).length (coinsW (core x)) ((core x).length + e)).map dI)) (ed_call (pre := preCounts) (ea_Dc (ed_str (ev_var rfl)) (ea_Dc (ed_I (n := (core x).length + e) (ev_var rfl)) ea_D)) ⟨core x, (core x).length + e, rfl, wc, cc, by omega, rfl⟩) fun v8 H13 e13 h13 => ?_
  have h11 := h11.mono (e12.trans e13)
  have hnil : ((countsM (core x).length (coinsW (core x)) ((core x).length + e)).take (core x).length).filter (fun y => !(y == 0)) = [] := List.filter_eq_nil_iff.mpr fun y hy => by
    rw [countsM_low y hy]
    decide
  refine q_when (b := false) (et_or (a := false) (b := false) (et_is (et_test (ev_neI (ev_lenXT (ed_var rfl h13)) (ev_I2 (g := fun i j => .int (i + j)) (i := (((core x).length + e : Nat) : Int)) (j := 1) (ev_var rfl) ev_c))) ?_) fun _ => et_or (a := false) (b := false)
      (et_is (et_test (ev_neI (i := (((rowsOf (coinsW (core x)) e).length : Nat) : Int)) (ev_int (ed_ixT (i := -1) (ed_var rfl h13) (ev_neg ev_c) ?_)) (ev_lenXL (ed_var rfl h11)))) ?_) fun _ => et_test (et_neD (d := .list (((((countsM (core x).length (coinsW (core x)) ((core x).length + e)).take (core x).length).filter fun y => !(y == 0))).map dI)) (e := .list []) (ed_m ?_) (ed_m (em_lst ea_D (by decide))) (shaped_ints _) shaped_nil (by rw [hnil]; rfl))) (fun z => absurd z (by decide)) fun _ H14 e14 => ?_
  · rw [List.length_map, countsM_len, decide_eq_true (by omega)]
    rfl
  · unfold countsM
    rw [List.range_succ, List.map_append, List.map_append]
    have e1 : (if (core x).length ≤ (core x).length + e then (pay (coinsW (core x)) ((core x).length + e)).getD ((core x).length + e - (core x).length) 0 else 0) = (rowsOf (coinsW (core x)) e).length := by
      rw [if_pos (by omega), Nat.add_sub_cancel_left, hsum, k4]
    show atI (_ ++ [dI (if (core x).length ≤ (core x).length + e then (pay (coinsW (core x)) ((core x).length + e)).getD ((core x).length + e - (core x).length) 0 else 0)]) (-1) = some _
    rw [e1]
    exact atI_last' _ _
  · rw [List.length_map, decide_eq_true rfl]
    rfl
  · refine em_lcTA dI _ (fun y => !(y == 0)) dI (ed_slHi (ed_var rfl h13) (eo_some (i := (((core x).length : Nat) : Int)) (ev_lenW (ev_var rfl) (by omega)))) ?_ (fun _ _ _ => .int _) fun y hy z H2 e2 hz R k => ?_
    · have := List.length_take_le (core x).length (countsM (core x).length (coinsW (core x)) ((core x).length + e))
      omega
    · cases hz
      refine g_name (k _ rfl (et_is (et_test (ev_neI (i := ((y : Nat) : Int)) (j := 0) (ev_var rfl) ev_c)) ?_) fun _ => ed_int (ev_var rfl))
      by_cases h : y = 0
      · subst h; rfl
      · rw [decide_eq_false (by omega), beq_false_of_ne h]
  refine q_parD (d1 := .tuple ((countsM (core x).length (coinsW (core x)) 60).map dI)) (d2 := missD (core x).length (coinsW (core x))) (ea_Dc (ed_call (pre := preCounts) (d := .tuple ((countsM (core x).length (coinsW (core x)) 60).map dI)) (ea_Dc (ed_str (ev_var rfl)) (ea_Dc (ed_int ev_c) ea_D)) ⟨core x, 60, rfl, wc, cc, by decide, rfl⟩) (ea_Dc (ed_call (pre := preMiss) (ea_Dc (ed_str (ev_var rfl)) ea_D) ⟨core x, rfl, wc, cc, rfl⟩) ea_D)) fun v9 v10 H15 e15 h9 h10 => ?_
  · · by_cases hg : gcdM (coinsW (core x)) = 1
      · obtain ⟨F, f1, f2, f3, f4⟩ := path_yes htab hsum lc hg
        rw [f1] at h10
        cases h10
        refine q_when (b := false) (et_test (ev_op (x := .int (F : Int)) (y := .non) (z := .bl false) (ev_var rfl) ev_c fun H2 _ Q2 q2 => ⟨rfl, q2 H2 (Ex.refl H2)⟩)) (fun z => absurd z (by decide)) fun _ H16 e16 => ?_
        have h9 := h9.mono e16
        refine s_ret (v := .bl true) (ev_andV (a := true) (b := true) (ev_is (ev_eqI (i := 0) (ev_int (ed_ixT (i := (F : Int)) (ed_var rfl h9) (ev_var rfl) (atI_nat (by rw [List.getElem?_map, f3]; rfl)))) ev_c) (by rw [decide_eq_true rfl])) fun _ => ev_is (ev_inI (neg := true) (ns := (countsM (core x).length (coinsW (core x)) 60).drop (F + 1)) ev_c (ed_slLo (k := F + 1) (ed_var rfl h9) (eo_some (ev_is (ev_I2 (ev_var rfl) ev_c) rfl)))) ?_) fun H17 _ => q H17
        rw [if_pos rfl]
        refine congrArg V.bl ?_
        rw [List.any_eq_false.mpr fun y hy => ?_]
        · rfl
        · have := f4 y hy
          simpa using this
      · obtain ⟨f1, f2⟩ := path_no htab hsum lc hg
        rw [f1] at h10
        cases h10
        refine q_when (b := true) (et_test (ev_op (x := .non) (y := .non) (z := .bl true) (ev_var rfl) ev_c fun H2 _ Q2 q2 => ⟨rfl, q2 H2 (Ex.refl H2)⟩)) (fun _ H16 e16 => ?_) (fun z => absurd z (by decide))
        have h9 := h9.mono e16
        rcases f2 with f2 | f2
        · have hc0 : core x = [] := List.length_eq_zero_iff.mp (by rw [hsum, f2]; rfl)
          exact s_ret (v := .bl true) (ev_orV (a := true) (b := true) (ev_is (ev_eqS (b := []) (ev_var rfl) (ev_is ev_c (congrArg V.str e_wd))) (by rw [decide_eq_true hc0])) fun z => absurd z (by decide)) fun H17 _ => q H17
        · refine s_ret (v := .bl true) (ev_is (ev_orV (a := decide (core x = [])) (b := true) (ev_eqS (b := []) (ev_var rfl) (ev_is ev_c (congrArg V.str e_wd))) fun _ => ev_is (ev_inI (neg := false) (ns := (countsM (core x).length (coinsW (core x)) 60).drop 50) ev_c (ed_slLo (k := 50) (ed_var rfl h9) (eo_some ev_c))) ?_) (by rw [Bool.or_true])) fun H17 _ => q H17
          rw [if_neg Bool.false_ne_true]
          exact congrArg V.bl (List.any_eq_true.mpr ⟨0, f2, rfl⟩)
end
end K31

set_option maxRecDepth 100000
set_option maxHeartbeats 8000000
namespace K31
open PySem PySem.Spec PyProof.Rows L2 Evl StX
section
variable {K : PySem.W.Frag} {h : Heap} {mg : Str → Option Value} {f : Addr} {od an : Option Addr} {sl : Array (Option Value)} {oc kV dc pm cd ct : Value}
/-! ### what the top has written -/
theorem d_is_int (X : K.In h) (G : h.Ns mainGlobals mg) (a : PySem.W.nsIn K mainGlobals "is_int" = some (some (.ref f))) (l : K.lookup f = some ⟨oc, od, .func (PySem.W.fnOf "is_int" "is_int" (defArgs sIsInt) (defBody sIsInt) (defScope sIsInt) .none kV dc pm an cd ct), sl⟩) (c : PySem.W.codeIn K cd "is_int" = true) (k : PySem.W.keepIn K (.ref f) = true) : Dfn K mg "is_int" sIsInt ["value"] := by
  have F := fun_mk (st := sIsInt) l c k
  exact ⟨⟨_, _, F, PySem.W.mg_of X G a, F.binds (ps := ["value"]) fun _ _ _ _ _ _ us hl => match us, hl with | [_], _ => rfl⟩⟩
theorem d_is_from (X : K.In h) (G : h.Ns mainGlobals mg) (a : PySem.W.nsIn K mainGlobals "is_from" = some (some (.ref f))) (l : K.lookup f = some ⟨oc, od, .func (PySem.W.fnOf "is_from" "is_from" (defArgs sIsFrom) (defBody sIsFrom) (defScope sIsFrom) .none kV dc pm an cd ct), sl⟩) (c : PySem.W.codeIn K cd "is_from" = true) (k : PySem.W.keepIn K (.ref f) = true) : Dfn K mg "is_from" sIsFrom ["value", "least", "most"] := by
  have F := fun_mk (st := sIsFrom) l c k
  exact ⟨⟨_, _, F, PySem.W.mg_of X G a, F.binds (ps := ["value", "least", "most"]) fun _ _ _ _ _ _ us hl => match us, hl with | [_, _, _], _ => rfl⟩⟩
theorem d_need_from (X : K.In h) (G : h.Ns mainGlobals mg) (a : PySem.W.nsIn K mainGlobals "need_from" = some (some (.ref f))) (l : K.lookup f = some ⟨oc, od, .func (PySem.W.fnOf "need_from" "need_from" (defArgs sNeedFrom) (defBody sNeedFrom) (defScope sNeedFrom) .none kV dc pm an cd ct), sl⟩) (c : PySem.W.codeIn K cd "need_from" = true) (k : PySem.W.keepIn K (.ref f) = true) : Dfn K mg "need_from" sNeedFrom ["value", "least", "most"] := by
  have F := fun_mk (st := sNeedFrom) l c k
  exact ⟨⟨_, _, F, PySem.W.mg_of X G a, F.binds (ps := ["value", "least", "most"]) fun _ _ _ _ _ _ us hl => match us, hl with | [_, _, _], _ => rfl⟩⟩
theorem d_need_word (X : K.In h) (G : h.Ns mainGlobals mg) (a : PySem.W.nsIn K mainGlobals "need_word" = some (some (.ref f))) (l : K.lookup f = some ⟨oc, od, .func (PySem.W.fnOf "need_word" "need_word" (defArgs sNeedWord) (defBody sNeedWord) (defScope sNeedWord) .none kV dc pm an cd ct), sl⟩) (c : PySem.W.codeIn K cd "need_word" = true) (k : PySem.W.keepIn K (.ref f) = true) : Dfn K mg "need_word" sNeedWord ["value"] := by
  have F := fun_mk (st := sNeedWord) l c k
  exact ⟨⟨_, _, F, PySem.W.mg_of X G a, F.binds (ps := ["value"]) fun _ _ _ _ _ _ us hl => match us, hl with | [_], _ => rfl⟩⟩
theorem d_runs_of (X : K.In h) (G : h.Ns mainGlobals mg) (a : PySem.W.nsIn K mainGlobals "runs_of" = some (some (.ref f))) (l : K.lookup f = some ⟨oc, od, .func (PySem.W.fnOf "runs_of" "runs_of" (defArgs sRuns) (defBody sRuns) (defScope sRuns) .none kV dc pm an cd ct), sl⟩) (c : PySem.W.codeIn K cd "runs_of" = true) (k : PySem.W.keepIn K (.ref f) = true) : Dfn K mg "runs_of" sRuns ["word"] := by
  have F := fun_mk (st := sRuns) l c k
  exact ⟨⟨_, _, F, PySem.W.mg_of X G a, F.binds (ps := ["word"]) fun _ _ _ _ _ _ us hl => match us, hl with | [_], _ => rfl⟩⟩
theorem d_marks_of (X : K.In h) (G : h.Ns mainGlobals mg) (a : PySem.W.nsIn K mainGlobals "marks_of" = some (some (.ref f))) (l : K.lookup f = some ⟨oc, od, .func (PySem.W.fnOf "marks_of" "marks_of" (defArgs sMarks) (defBody sMarks) (defScope sMarks) .none kV dc pm an cd ct), sl⟩) (c : PySem.W.codeIn K cd "marks_of" = true) (k : PySem.W.keepIn K (.ref f) = true) : Dfn K mg "marks_of" sMarks ["word"] := by
  have F := fun_mk (st := sMarks) l c k
  exact ⟨⟨_, _, F, PySem.W.mg_of X G a, F.binds (ps := ["word"]) fun _ _ _ _ _ _ us hl => match us, hl with | [_], _ => rfl⟩⟩
theorem d_word_of (X : K.In h) (G : h.Ns mainGlobals mg) (a : PySem.W.nsIn K mainGlobals "word_of" = some (some (.ref f))) (l : K.lookup f = some ⟨oc, od, .func (PySem.W.fnOf "word_of" "word_of" (defArgs sWordOf) (defBody sWordOf) (defScope sWordOf) .none kV dc pm an cd ct), sl⟩) (c : PySem.W.codeIn K cd "word_of" = true) (k : PySem.W.keepIn K (.ref f) = true) : Dfn K mg "word_of" sWordOf ["runs"] := by
  have F := fun_mk (st := sWordOf) l c k
  exact ⟨⟨_, _, F, PySem.W.mg_of X G a, F.binds (ps := ["runs"]) fun _ _ _ _ _ _ us hl => match us, hl with | [_], _ => rfl⟩⟩
theorem d_core_of (X : K.In h) (G : h.Ns mainGlobals mg) (a : PySem.W.nsIn K mainGlobals "core_of" = some (some (.ref f))) (l : K.lookup f = some ⟨oc, od, .func (PySem.W.fnOf "core_of" "core_of" (defArgs sCore) (defBody sCore) (defScope sCore) .none kV dc pm an cd ct), sl⟩) (c : PySem.W.codeIn K cd "core_of" = true) (k : PySem.W.keepIn K (.ref f) = true) : Dfn K mg "core_of" sCore ["word"] := by
  have F := fun_mk (st := sCore) l c k
  exact ⟨⟨_, _, F, PySem.W.mg_of X G a, F.binds (ps := ["word"]) fun _ _ _ _ _ _ us hl => match us, hl with | [_], _ => rfl⟩⟩
theorem d_need_core (X : K.In h) (G : h.Ns mainGlobals mg) (a : PySem.W.nsIn K mainGlobals "need_core" = some (some (.ref f))) (l : K.lookup f = some ⟨oc, od, .func (PySem.W.fnOf "need_core" "need_core" (defArgs sNeedCore) (defBody sNeedCore) (defScope sNeedCore) .none kV dc pm an cd ct), sl⟩) (c : PySem.W.codeIn K cd "need_core" = true) (k : PySem.W.keepIn K (.ref f) = true) : Dfn K mg "need_core" sNeedCore ["value"] := by
  have F := fun_mk (st := sNeedCore) l c k
  exact ⟨⟨_, _, F, PySem.W.mg_of X G a, F.binds (ps := ["value"]) fun _ _ _ _ _ _ us hl => match us, hl with | [_], _ => rfl⟩⟩
theorem d_levels_of (X : K.In h) (G : h.Ns mainGlobals mg) (a : PySem.W.nsIn K mainGlobals "levels_of" = some (some (.ref f))) (l : K.lookup f = some ⟨oc, od, .func (PySem.W.fnOf "levels_of" "levels_of" (defArgs sLevels) (defBody sLevels) (defScope sLevels) .none kV dc pm an cd ct), sl⟩) (c : PySem.W.codeIn K cd "levels_of" = true) (k : PySem.W.keepIn K (.ref f) = true) : Dfn K mg "levels_of" sLevels ["word"] := by
  have F := fun_mk (st := sLevels) l c k
  exact ⟨⟨_, _, F, PySem.W.mg_of X G a, F.binds (ps := ["word"]) fun _ _ _ _ _ _ us hl => match us, hl with | [_], _ => rfl⟩⟩
theorem d_coins_of (X : K.In h) (G : h.Ns mainGlobals mg) (a : PySem.W.nsIn K mainGlobals "coins_of" = some (some (.ref f))) (l : K.lookup f = some ⟨oc, od, .func (PySem.W.fnOf "coins_of" "coins_of" (defArgs sCoinsOf) (defBody sCoinsOf) (defScope sCoinsOf) .none kV dc pm an cd ct), sl⟩) (c : PySem.W.codeIn K cd "coins_of" = true) (k : PySem.W.keepIn K (.ref f) = true) : Dfn K mg "coins_of" sCoinsOf ["word"] := by
  have F := fun_mk (st := sCoinsOf) l c k
  exact ⟨⟨_, _, F, PySem.W.mg_of X G a, F.binds (ps := ["word"]) fun _ _ _ _ _ _ us hl => match us, hl with | [_], _ => rfl⟩⟩
theorem d_coins (X : K.In h) (G : h.Ns mainGlobals mg) (a : PySem.W.nsIn K mainGlobals "coins" = some (some (.ref f))) (l : K.lookup f = some ⟨oc, od, .func (PySem.W.fnOf "coins" "coins" (defArgs sCoins) (defBody sCoins) (defScope sCoins) .none kV dc pm an cd ct), sl⟩) (c : PySem.W.codeIn K cd "coins" = true) (k : PySem.W.keepIn K (.ref f) = true) : Dfn K mg "coins" sCoins ["word"] := by
  have F := fun_mk (st := sCoins) l c k
  exact ⟨⟨_, _, F, PySem.W.mg_of X G a, F.binds (ps := ["word"]) fun _ _ _ _ _ _ us hl => match us, hl with | [_], _ => rfl⟩⟩
theorem d_payments (X : K.In h) (G : h.Ns mainGlobals mg) (a : PySem.W.nsIn K mainGlobals "payments" = some (some (.ref f))) (l : K.lookup f = some ⟨oc, od, .func (PySem.W.fnOf "payments" "payments" (defArgs sPay) (defBody sPay) (defScope sPay) .none kV dc pm an cd ct), sl⟩) (c : PySem.W.codeIn K cd "payments" = true) (k : PySem.W.keepIn K (.ref f) = true) : Dfn K mg "payments" sPay ["told", "most"] := by
  have F := fun_mk (st := sPay) l c k
  exact ⟨⟨_, _, F, PySem.W.mg_of X G a, F.binds (ps := ["told", "most"]) fun _ _ _ _ _ _ us hl => match us, hl with | [_, _], _ => rfl⟩⟩
theorem d_count_of_length (X : K.In h) (G : h.Ns mainGlobals mg) (a : PySem.W.nsIn K mainGlobals "count_of_length" = some (some (.ref f))) (l : K.lookup f = some ⟨oc, od, .func (PySem.W.fnOf "count_of_length" "count_of_length" (defArgs sCount) (defBody sCount) (defScope sCount) .none kV dc pm an cd ct), sl⟩) (c : PySem.W.codeIn K cd "count_of_length" = true) (k : PySem.W.keepIn K (.ref f) = true) : Dfn K mg "count_of_length" sCount ["word", "size"] := by
  have F := fun_mk (st := sCount) l c k
  exact ⟨⟨_, _, F, PySem.W.mg_of X G a, F.binds (ps := ["word", "size"]) fun _ _ _ _ _ _ us hl => match us, hl with | [_, _], _ => rfl⟩⟩
theorem d_counts_to (X : K.In h) (G : h.Ns mainGlobals mg) (a : PySem.W.nsIn K mainGlobals "counts_to" = some (some (.ref f))) (l : K.lookup f = some ⟨oc, od, .func (PySem.W.fnOf "counts_to" "counts_to" (defArgs sCounts) (defBody sCounts) (defScope sCounts) .none kV dc pm an cd ct), sl⟩) (c : PySem.W.codeIn K cd "counts_to" = true) (k : PySem.W.keepIn K (.ref f) = true) : Dfn K mg "counts_to" sCounts ["word", "most"] := by
  have F := fun_mk (st := sCounts) l c k
  exact ⟨⟨_, _, F, PySem.W.mg_of X G a, F.binds (ps := ["word", "most"]) fun _ _ _ _ _ _ us hl => match us, hl with | [_, _], _ => rfl⟩⟩
theorem d_divisor_of (X : K.In h) (G : h.Ns mainGlobals mg) (a : PySem.W.nsIn K mainGlobals "divisor_of" = some (some (.ref f))) (l : K.lookup f = some ⟨oc, od, .func (PySem.W.fnOf "divisor_of" "divisor_of" (defArgs sDiv) (defBody sDiv) (defScope sDiv) .none kV dc pm an cd ct), sl⟩) (c : PySem.W.codeIn K cd "divisor_of" = true) (k : PySem.W.keepIn K (.ref f) = true) : Dfn K mg "divisor_of" sDiv ["told"] := by
  have F := fun_mk (st := sDiv) l c k
  exact ⟨⟨_, _, F, PySem.W.mg_of X G a, F.binds (ps := ["told"]) fun _ _ _ _ _ _ us hl => match us, hl with | [_], _ => rfl⟩⟩
theorem d_greatest_missing (X : K.In h) (G : h.Ns mainGlobals mg) (a : PySem.W.nsIn K mainGlobals "greatest_missing" = some (some (.ref f))) (l : K.lookup f = some ⟨oc, od, .func (PySem.W.fnOf "greatest_missing" "greatest_missing" (defArgs sMissing) (defBody sMissing) (defScope sMissing) .none kV dc pm an cd ct), sl⟩) (c : PySem.W.codeIn K cd "greatest_missing" = true) (k : PySem.W.keepIn K (.ref f) = true) : Dfn K mg "greatest_missing" sMissing ["word"] := by
  have F := fun_mk (st := sMissing) l c k
  exact ⟨⟨_, _, F, PySem.W.mg_of X G a, F.binds (ps := ["word"]) fun _ _ _ _ _ _ us hl => match us, hl with | [_], _ => rfl⟩⟩
theorem d_gaps_of_length (X : K.In h) (G : h.Ns mainGlobals mg) (a : PySem.W.nsIn K mainGlobals "gaps_of_length" = some (some (.ref f))) (l : K.lookup f = some ⟨oc, od, .func (PySem.W.fnOf "gaps_of_length" "gaps_of_length" (defArgs sGapsLen) (defBody sGapsLen) (defScope sGapsLen) .none kV dc pm an cd ct), sl⟩) (c : PySem.W.codeIn K cd "gaps_of_length" = true) (k : PySem.W.keepIn K (.ref f) = true) : Dfn K mg "gaps_of_length" sGapsLen ["word", "size"] := by
  have F := fun_mk (st := sGapsLen) l c k
  exact ⟨⟨_, _, F, PySem.W.mg_of X G a, F.binds (ps := ["word", "size"]) fun _ _ _ _ _ _ us hl => match us, hl with | [_, _], _ => rfl⟩⟩
theorem d__law_taken (X : K.In h) (G : h.Ns mainGlobals mg) (a : PySem.W.nsIn K mainGlobals "_law_taken" = some (some (.ref f))) (l : K.lookup f = some ⟨oc, od, .func (PySem.W.fnOf "_law_taken" "_law_taken" (defArgs sTaken) (defBody sTaken) (defScope sTaken) .none kV dc pm an cd ct), sl⟩) (c : PySem.W.codeIn K cd "_law_taken" = true) (k : PySem.W.keepIn K (.ref f) = true) : Dfn K mg "_law_taken" sTaken ["_law_row", "_law_many"] := by
  have F := fun_mk (st := sTaken) l c k
  exact ⟨⟨_, _, F, PySem.W.mg_of X G a, F.binds (ps := ["_law_row", "_law_many"]) fun _ _ _ _ _ _ us hl => match us, hl with | [_, _], _ => rfl⟩⟩
theorem d__law_alike (X : K.In h) (G : h.Ns mainGlobals mg) (a : PySem.W.nsIn K mainGlobals "_law_alike" = some (some (.ref f))) (l : K.lookup f = some ⟨oc, od, .func (PySem.W.fnOf "_law_alike" "_law_alike" (defArgs sAlike) (defBody sAlike) (defScope sAlike) .none kV dc pm an cd ct), sl⟩) (c : PySem.W.codeIn K cd "_law_alike" = true) (k : PySem.W.keepIn K (.ref f) = true) : Dfn K mg "_law_alike" sAlike ["_law_found", "_law_due"] := by
  have F := fun_mk (st := sAlike) l c k
  exact ⟨⟨_, _, F, PySem.W.mg_of X G a, F.binds (ps := ["_law_found", "_law_due"]) fun _ _ _ _ _ _ us hl => match us, hl with | [_, _], _ => rfl⟩⟩
theorem d__law_word (X : K.In h) (G : h.Ns mainGlobals mg) (a : PySem.W.nsIn K mainGlobals "_law_word" = some (some (.ref f))) (l : K.lookup f = some ⟨oc, od, .func (PySem.W.fnOf "_law_word" "_law_word" (defArgs sLWord) (defBody sLWord) (defScope sLWord) .none kV dc pm an cd ct), sl⟩) (c : PySem.W.codeIn K cd "_law_word" = true) (k : PySem.W.keepIn K (.ref f) = true) : Dfn K mg "_law_word" sLWord ["_law_row", "_law_most", "_law_many"] := by
  have F := fun_mk (st := sLWord) l c k
  exact ⟨⟨_, _, F, PySem.W.mg_of X G a, F.binds (ps := ["_law_row", "_law_most", "_law_many"]) fun _ _ _ _ _ _ us hl => match us, hl with | [_, _, _], _ => rfl⟩⟩
theorem d__law_ends (X : K.In h) (G : h.Ns mainGlobals mg) (a : PySem.W.nsIn K mainGlobals "_law_ends" = some (some (.ref f))) (l : K.lookup f = some ⟨oc, od, .func (PySem.W.fnOf "_law_ends" "_law_ends" (defArgs sLEnds) (defBody sLEnds) (defScope sLEnds) .none kV dc pm an cd ct), sl⟩) (c : PySem.W.codeIn K cd "_law_ends" = true) (k : PySem.W.keepIn K (.ref f) = true) : Dfn K mg "_law_ends" sLEnds ["_law_word_here"] := by
  have F := fun_mk (st := sLEnds) l c k
  exact ⟨⟨_, _, F, PySem.W.mg_of X G a, F.binds (ps := ["_law_word_here"]) fun _ _ _ _ _ _ us hl => match us, hl with | [_], _ => rfl⟩⟩
theorem d__law_marks (X : K.In h) (G : h.Ns mainGlobals mg) (a : PySem.W.nsIn K mainGlobals "_law_marks" = some (some (.ref f))) (l : K.lookup f = some ⟨oc, od, .func (PySem.W.fnOf "_law_marks" "_law_marks" (defArgs sLMarks) (defBody sLMarks) (defScope sLMarks) .none kV dc pm an cd ct), sl⟩) (c : PySem.W.codeIn K cd "_law_marks" = true) (k : PySem.W.keepIn K (.ref f) = true) : Dfn K mg "_law_marks" sLMarks ["_law_word_here"] := by
  have F := fun_mk (st := sLMarks) l c k
  exact ⟨⟨_, _, F, PySem.W.mg_of X G a, F.binds (ps := ["_law_word_here"]) fun _ _ _ _ _ _ us hl => match us, hl with | [_], _ => rfl⟩⟩
theorem d__law_made (X : K.In h) (G : h.Ns mainGlobals mg) (a : PySem.W.nsIn K mainGlobals "_law_made" = some (some (.ref f))) (l : K.lookup f = some ⟨oc, od, .func (PySem.W.fnOf "_law_made" "_law_made" (defArgs sLMade) (defBody sLMade) (defScope sLMade) .none kV dc pm an cd ct), sl⟩) (c : PySem.W.codeIn K cd "_law_made" = true) (k : PySem.W.keepIn K (.ref f) = true) : Dfn K mg "_law_made" sLMade ["_law_ends_here"] := by
  have F := fun_mk (st := sLMade) l c k
  exact ⟨⟨_, _, F, PySem.W.mg_of X G a, F.binds (ps := ["_law_ends_here"]) fun _ _ _ _ _ _ us hl => match us, hl with | [_], _ => rfl⟩⟩
theorem d__law_core (X : K.In h) (G : h.Ns mainGlobals mg) (a : PySem.W.nsIn K mainGlobals "_law_core" = some (some (.ref f))) (l : K.lookup f = some ⟨oc, od, .func (PySem.W.fnOf "_law_core" "_law_core" (defArgs sLCore) (defBody sLCore) (defScope sLCore) .none kV dc pm an cd ct), sl⟩) (c : PySem.W.codeIn K cd "_law_core" = true) (k : PySem.W.keepIn K (.ref f) = true) : Dfn K mg "_law_core" sLCore ["_law_word_here"] := by
  have F := fun_mk (st := sLCore) l c k
  exact ⟨⟨_, _, F, PySem.W.mg_of X G a, F.binds (ps := ["_law_word_here"]) fun _ _ _ _ _ _ us hl => match us, hl with | [_], _ => rfl⟩⟩
theorem d__law_gaps (X : K.In h) (G : h.Ns mainGlobals mg) (a : PySem.W.nsIn K mainGlobals "_law_gaps" = some (some (.ref f))) (l : K.lookup f = some ⟨oc, od, .func (PySem.W.fnOf "_law_gaps" "_law_gaps" (defArgs sLGaps) (defBody sLGaps) (defScope sLGaps) .none kV dc pm an cd ct), sl⟩) (c : PySem.W.codeIn K cd "_law_gaps" = true) (k : PySem.W.keepIn K (.ref f) = true) : Dfn K mg "_law_gaps" sLGaps ["_law_word_here"] := by
  have F := fun_mk (st := sLGaps) l c k
  exact ⟨⟨_, _, F, PySem.W.mg_of X G a, F.binds (ps := ["_law_word_here"]) fun _ _ _ _ _ _ us hl => match us, hl with | [_], _ => rfl⟩⟩
theorem d__law_grown (X : K.In h) (G : h.Ns mainGlobals mg) (a : PySem.W.nsIn K mainGlobals "_law_grown" = some (some (.ref f))) (l : K.lookup f = some ⟨oc, od, .func (PySem.W.fnOf "_law_grown" "_law_grown" (defArgs sLGrown) (defBody sLGrown) (defScope sLGrown) .none kV dc pm an cd ct), sl⟩) (c : PySem.W.codeIn K cd "_law_grown" = true) (k : PySem.W.keepIn K (.ref f) = true) : Dfn K mg "_law_grown" sLGrown ["_law_bare", "_law_widths"] := by
  have F := fun_mk (st := sLGrown) l c k
  exact ⟨⟨_, _, F, PySem.W.mg_of X G a, F.binds (ps := ["_law_bare", "_law_widths"]) fun _ _ _ _ _ _ us hl => match us, hl with | [_, _], _ => rfl⟩⟩
theorem d__law_rows (X : K.In h) (G : h.Ns mainGlobals mg) (a : PySem.W.nsIn K mainGlobals "_law_rows" = some (some (.ref f))) (l : K.lookup f = some ⟨oc, od, .func (PySem.W.fnOf "_law_rows" "_law_rows" (defArgs sLRows) (defBody sLRows) (defScope sLRows) .none kV dc pm an cd ct), sl⟩) (c : PySem.W.codeIn K cd "_law_rows" = true) (k : PySem.W.keepIn K (.ref f) = true) : Dfn K mg "_law_rows" sLRows ["_law_most"] := by
  have F := fun_mk (st := sLRows) l c k
  exact ⟨⟨_, _, F, PySem.W.mg_of X G a, F.binds (ps := ["_law_most"]) fun _ _ _ _ _ _ us hl => match us, hl with | [_], _ => rfl⟩⟩
theorem d__law_power (X : K.In h) (G : h.Ns mainGlobals mg) (a : PySem.W.nsIn K mainGlobals "_law_power" = some (some (.ref f))) (l : K.lookup f = some ⟨oc, od, .func (PySem.W.fnOf "_law_power" "_law_power" (defArgs sLPower) (defBody sLPower) (defScope sLPower) .none kV dc pm an cd ct), sl⟩) (c : PySem.W.codeIn K cd "_law_power" = true) (k : PySem.W.keepIn K (.ref f) = true) : Dfn K mg "_law_power" sLPower ["_law_one", "_law_times"] := by
  have F := fun_mk (st := sLPower) l c k
  exact ⟨⟨_, _, F, PySem.W.mg_of X G a, F.binds (ps := ["_law_one", "_law_times"]) fun _ _ _ _ _ _ us hl => match us, hl with | [_, _], _ => rfl⟩⟩
theorem nms_mk (X : K.In h) (G : h.Ns mainGlobals mg) {t0 t1 t2 t3 t4 : Tok} (n0 : PySem.W.nsIn K mainGlobals "isinstance" = some none) (n1 : PySem.W.nsIn K mainGlobals "int" = some none) (n2 : PySem.W.nsIn K mainGlobals "bool" = some none) (n3 : PySem.W.nsIn K mainGlobals "str" = some none) (n4 : PySem.W.nsIn K mainGlobals "list" = some none) (n5 : PySem.W.nsIn K mainGlobals "tuple" = some none) (n6 : PySem.W.nsIn K mainGlobals "len" = some none) (n7 : PySem.W.nsIn K mainGlobals "enumerate" = some none) (n8 : PySem.W.nsIn K mainGlobals "sorted" = some none) (n9 : PySem.W.nsIn K mainGlobals "set" = some none) (n10 : PySem.W.nsIn K mainGlobals "max" = some none) (n11 : PySem.W.nsIn K mainGlobals "range" = some none) (n12 : PySem.W.nsIn K mainGlobals "sum" = some none) (c0 : PySem.W.nsIn K mainGlobals "LETTERS" = some (some (.str "abcd" t0))) (c1 : PySem.W.nsIn K mainGlobals "MOST_WORD" = some (some (.int 2000 t1))) (c2 : PySem.W.nsIn K mainGlobals "MOST_ALL" = some (some (.int 5000 t2))) (c3 : PySem.W.nsIn K mainGlobals "MOST_LENGTH" = some (some (.int 2000 t3))) (c4 : PySem.W.nsIn K mainGlobals "MOST_PATH" = some (some (.int 200 t4))) : Nms mg :=
  ⟨PySem.W.mg_none_of X G n0, PySem.W.mg_none_of X G n1, PySem.W.mg_none_of X G n2, PySem.W.mg_none_of X G n3, PySem.W.mg_none_of X G n4, PySem.W.mg_none_of X G n5, PySem.W.mg_none_of X G n6, PySem.W.mg_none_of X G n7, PySem.W.mg_none_of X G n8, PySem.W.mg_none_of X G n9, PySem.W.mg_none_of X G n10, PySem.W.mg_none_of X G n11, PySem.W.mg_none_of X G n12, ⟨t0, PySem.W.mg_of X G c0⟩, ⟨t1, PySem.W.mg_of X G c1⟩, ⟨t2, PySem.W.mg_of X G c2⟩, ⟨t3, PySem.W.mg_of X G c3⟩, ⟨t4, PySem.W.mg_of X G c4⟩⟩
end
theorem all_mk {l : PySem.W.OpenLaw} {w : World} {K : PySem.W.Frag} {h : Heap} {mg : Str → Option Value} {fa f : Addr} {od an : Option Addr} {sl : Array (Option Value)} {oc kV dc pm cd ct : Value} (X : K.In h) (G : h.Ns mainGlobals mg) (hfa : mg "law" = some (.ref fa)) (D0 : Dfn K mg "is_int" sIsInt ["value"]) (D1 : Dfn K mg "is_from" sIsFrom ["value", "least", "most"]) (D2 : Dfn K mg "need_from" sNeedFrom ["value", "least", "most"]) (D3 : Dfn K mg "need_word" sNeedWord ["value"]) (D4 : Dfn K mg "runs_of" sRuns ["word"]) (D5 : Dfn K mg "marks_of" sMarks ["word"]) (D6 : Dfn K mg "word_of" sWordOf ["runs"]) (D7 : Dfn K mg "core_of" sCore ["word"]) (D8 : Dfn K mg "need_core" sNeedCore ["value"]) (D9 : Dfn K mg "levels_of" sLevels ["word"]) (D10 : Dfn K mg "coins_of" sCoinsOf ["word"]) (D11 : Dfn K mg "coins" sCoins ["word"]) (D12 : Dfn K mg "payments" sPay ["told", "most"]) (D13 : Dfn K mg "count_of_length" sCount ["word", "size"]) (D14 : Dfn K mg "counts_to" sCounts ["word", "most"]) (D15 : Dfn K mg "divisor_of" sDiv ["told"]) (D16 : Dfn K mg "greatest_missing" sMissing ["word"]) (D17 : Dfn K mg "gaps_of_length" sGapsLen ["word", "size"]) (D18 : Dfn K mg "_law_taken" sTaken ["_law_row", "_law_many"]) (D19 : Dfn K mg "_law_alike" sAlike ["_law_found", "_law_due"]) (D20 : Dfn K mg "_law_word" sLWord ["_law_row", "_law_most", "_law_many"]) (D21 : Dfn K mg "_law_ends" sLEnds ["_law_word_here"]) (D22 : Dfn K mg "_law_marks" sLMarks ["_law_word_here"]) (D23 : Dfn K mg "_law_made" sLMade ["_law_ends_here"]) (D24 : Dfn K mg "_law_core" sLCore ["_law_word_here"]) (D25 : Dfn K mg "_law_gaps" sLGaps ["_law_word_here"]) (D26 : Dfn K mg "_law_grown" sLGrown ["_law_bare", "_law_widths"]) (D27 : Dfn K mg "_law_rows" sLRows ["_law_most"]) (D28 : Dfn K mg "_law_power" sLPower ["_law_one", "_law_times"]) (Y : Nms mg)
    (a : PySem.W.nsIn K mainGlobals "law" = some (some (.ref f))) (hl : K.lookup f = some ⟨oc, od, .func (PySem.W.fnOf "law" "law" (defArgs sLaw) (defBody sLaw) (defScope sLaw) .none kV dc pm an cd ct), sl⟩) (c : PySem.W.codeIn K cd "law" = true) (k : PySem.W.keepIn K (.ref f) = true) :
    ∃ fd : FuncData, (∀ (s : Shared) (v : Value), BindsTo s fd ⟨[v], []⟩ [("_law_script", v)]) ∧ ∀ base : Heap, K.In base → base.Ns mainGlobals mg → FnOk l.prog w K mg base CX0 7 fa fd ["_law_script"] (spLaw K) := by
  have e := hfa.symm.trans (PySem.W.mg_of X G a)
  cases e
  refine ⟨PySem.W.fnOf "law" "law" (defArgs sLaw) (defBody sLaw) (defScope sLaw) .none kV dc pm an cd ct, fun s v => .of_eq rfl, fun base _ _ => ?_⟩
  have F := fun_mk (st := sLaw) hl c k
  have C_is_int := c_is_int (P := l.prog) (w := w) (base := base) D0 Y
  have C_is_from := c_is_from (P := l.prog) (w := w) (base := base) D1 C_is_int
  have C_need_from := c_need_from (P := l.prog) (w := w) (base := base) D2 C_is_from
  have C_need_word := c_need_word (P := l.prog) (w := w) (base := base) D3 Y
  have C_runs_of := c_runs_of (P := l.prog) (w := w) (base := base) D4
  have C_marks_of := c_marks_of (P := l.prog) (w := w) (base := base) D5 Y C_runs_of
  have C_word_of := c_word_of (P := l.prog) (w := w) (base := base) D6
  have C_core_of := c_core_of (P := l.prog) (w := w) (base := base) D7 C_marks_of C_runs_of C_word_of
  have C_need_core := c_need_core (P := l.prog) (w := w) (base := base) D8 C_need_word C_core_of
  have C_levels_of := c_levels_of (P := l.prog) (w := w) (base := base) D9 Y
  have C_coins_of := c_coins_of (P := l.prog) (w := w) (base := base) D10 Y C_levels_of
  have C_coins := c_coins (P := l.prog) (w := w) (base := base) D11 Y C_need_core C_coins_of
  have C_payments := c_payments (P := l.prog) (w := w) (base := base) D12 Y
  have C_count_of_length := c_count (P := l.prog) (w := w) (base := base) D13 Y C_need_core C_need_from C_payments C_coins_of
  have C_counts_to := c_counts (P := l.prog) (w := w) (base := base) D14 Y C_need_core C_need_from C_payments C_coins_of
  have C_divisor_of := c_divisor (P := l.prog) (w := w) (base := base) D15
  have C_greatest_missing := c_missing (P := l.prog) (w := w) (base := base) D16 Y C_need_core C_divisor_of C_payments C_coins_of
  have C_gaps_of_length := c_gaps (P := l.prog) (w := w) (base := base) D17 Y C_need_core C_need_from C_count_of_length C_coins_of
  have C_taken := c_taken (P := l.prog) (w := w) (base := base) D18 Y
  have C_lword := c_lword (P := l.prog) (w := w) (base := base) D20 Y C_taken
  have C_lends := c_lends (P := l.prog) (w := w) (base := base) D21 Y
  have C_lmarks := c_lmarks (P := l.prog) (w := w) (base := base) D22 Y C_lends
  have C_lmade := c_lmade (P := l.prog) (w := w) (base := base) D23
  have C_lcore := c_lcore (P := l.prog) (w := w) (base := base) D24 C_lmarks C_lends C_lmade
  have C_lgaps := c_lgaps (P := l.prog) (w := w) (base := base) D25 Y C_lmarks
  have C_lgrown := c_lgrown (P := l.prog) (w := w) (base := base) D26 C_lends C_lmade
  have C_lrows := c_lrows (P := l.prog) (w := w) (base := base) D27 Y
  have C_lpower := c_lpower (P := l.prog) (w := w) (base := base) D28 Y
  have C_alike := c_lalike (P := l.prog) (w := w) (base := base) D19 Y
  exact ok_law F Y C_taken C_lword C_lcore C_lgaps C_coins C_alike C_lpower C_lrows C_lgrown C_count_of_length C_gaps_of_length C_counts_to C_greatest_missing
theorem walk {l : PySem.W.OpenLaw} {q : Program} {loose : List Str} {XP : (Str → Option Value) → Heap → Prop} {YP : World → Heap → Prop} {d : DefRec} {K : Params → PySem.W.Frag} (hn : l.most = some 63) (hdf : d.params.defaults = [])
    (hY : ∀ (w : World) (h : Heap), YP w h → (K w.params).In h)
    (F : ∀ (w : World) (mg : Str → Option Value) (fa : Addr) (h : Heap), (K w.params).In h → h.Ns mainGlobals mg → mg d.name = some (.ref fa) →
      ∃ fd : FuncData, (∀ (s : Shared) (u : Value), BindsTo s fd ⟨[u], []⟩ [("_law_script", u)]) ∧ ∀ base : Heap, (K w.params).In base → base.Ns mainGlobals mg → FnOk l.prog w (K w.params) mg base CX0 7 fa fd ["_law_script"] (spLaw (K w.params))) :
    PySem.W.WalkO q loose XP YP l.row.toRowW d [] (fun f vs => PySem.call f vs) :=
  L2.walk_of (n := 63) (k := 7) (x := "_law_script") (CX := fun _ => CX0) (sp := fun w => spLaw (K w.params)) hn (by decide) hdf ⟨rfl, by decide, by decide⟩ hY F (fun _ _ a ns _ _ hS => ⟨a, ns, rfl, hS, fun _ => rfl⟩) fun _ _ _ _ _ z => z
end K31

open PySem PySem.W PyProof.Rows in
set_option maxRecDepth 100000 in
set_option maxHeartbeats 0 in
theorem PySem.Challenge.cw_saidcounts_k31_whole_lengths_paid_holds : PySem.Challenge.rw_saidcounts_k31_whole_lengths_paid.Holds := by
  w_on; o_law; k_head; (case hw => w_witness2)
  k_fill
  refine K31.walk (l := PySem.Challenge.rw_saidcounts_k31_whole_lengths_paid) rfl rfl (fun w h Y => PySem.W.kIn_of Y) ?F
  case F =>
    intro w mg fa h KX G hmg
    refine' K31.all_mk KX G hmg ?d0 ?d1 ?d2 ?d3 ?d4 ?d5 ?d6 ?d7 ?d8 ?d9 ?d10 ?d11 ?d12 ?d13 ?d14 ?d15 ?d16 ?d17 ?d18 ?d19 ?d20 ?d21 ?d22 ?d23 ?d24 ?d25 ?d26 ?d27 ?d28 ?y ?aa ?ll ?cc ?kk
    case d0 =>
      refine' K31.d_is_int KX G ?a0 ?l0 ?c0 ?k0
      (case a0 => k_is)
      (case l0 => k_is)
      (case c0 => k_is)
      (case k0 => k_is)
    case d1 =>
      refine' K31.d_is_from KX G ?a1 ?l1 ?c1 ?k1
      (case a1 => k_is)
      (case l1 => k_is)
      (case c1 => k_is)
      (case k1 => k_is)
    case d2 =>
      refine' K31.d_need_from KX G ?a2 ?l2 ?c2 ?k2
      (case a2 => k_is)
      (case l2 => k_is)
      (case c2 => k_is)
      (case k2 => k_is)
    case d3 =>
      refine' K31.d_need_word KX G ?a3 ?l3 ?c3 ?k3
      (case a3 => k_is)
      (case l3 => k_is)
      (case c3 => k_is)
      (case k3 => k_is)
    case d4 =>
      refine' K31.d_runs_of KX G ?a4 ?l4 ?c4 ?k4
      (case a4 => k_is)
      (case l4 => k_is)
      (case c4 => k_is)
      (case k4 => k_is)
    case d5 =>
      refine' K31.d_marks_of KX G ?a5 ?l5 ?c5 ?k5
      (case a5 => k_is)
      (case l5 => k_is)
      (case c5 => k_is)
      (case k5 => k_is)
    case d6 =>
      refine' K31.d_word_of KX G ?a6 ?l6 ?c6 ?k6
      (case a6 => k_is)
      (case l6 => k_is)
      (case c6 => k_is)
      (case k6 => k_is)
    case d7 =>
      refine' K31.d_core_of KX G ?a7 ?l7 ?c7 ?k7
      (case a7 => k_is)
      (case l7 => k_is)
      (case c7 => k_is)
      (case k7 => k_is)
    case d8 =>
      refine' K31.d_need_core KX G ?a8 ?l8 ?c8 ?k8
      (case a8 => k_is)
      (case l8 => k_is)
      (case c8 => k_is)
      (case k8 => k_is)
    case d9 =>
      refine' K31.d_levels_of KX G ?a9 ?l9 ?c9 ?k9
      (case a9 => k_is)
      (case l9 => k_is)
      (case c9 => k_is)
      (case k9 => k_is)
    case d10 =>
      refine' K31.d_coins_of KX G ?a10 ?l10 ?c10 ?k10
      (case a10 => k_is)
      (case l10 => k_is)
      (case c10 => k_is)
      (case k10 => k_is)
    case d11 =>
      refine' K31.d_coins KX G ?a11 ?l11 ?c11 ?k11
      (case a11 => k_is)
      (case l11 => k_is)
      (case c11 => k_is)
      (case k11 => k_is)
    case d12 =>
      refine' K31.d_payments KX G ?a12 ?l12 ?c12 ?k12
      (case a12 => k_is)
      (case l12 => k_is)
      (case c12 => k_is)
      (case k12 => k_is)
    case d13 =>
      refine' K31.d_count_of_length KX G ?a13 ?l13 ?c13 ?k13
      (case a13 => k_is)
      (case l13 => k_is)
      (case c13 => k_is)
      (case k13 => k_is)
    case d14 =>
      refine' K31.d_counts_to KX G ?a14 ?l14 ?c14 ?k14
      (case a14 => k_is)
      (case l14 => k_is)
      (case c14 => k_is)
      (case k14 => k_is)
    case d15 =>
      refine' K31.d_divisor_of KX G ?a15 ?l15 ?c15 ?k15
      (case a15 => k_is)
      (case l15 => k_is)
      (case c15 => k_is)
      (case k15 => k_is)
    case d16 =>
      refine' K31.d_greatest_missing KX G ?a16 ?l16 ?c16 ?k16
      (case a16 => k_is)
      (case l16 => k_is)
      (case c16 => k_is)
      (case k16 => k_is)
    case d17 =>
      refine' K31.d_gaps_of_length KX G ?a17 ?l17 ?c17 ?k17
      (case a17 => k_is)
      (case l17 => k_is)
      (case c17 => k_is)
      (case k17 => k_is)
    case d18 =>
      refine' K31.d__law_taken KX G ?a18 ?l18 ?c18 ?k18
      (case a18 => k_is)
      (case l18 => k_is)
      (case c18 => k_is)
      (case k18 => k_is)
    case d19 =>
      refine' K31.d__law_alike KX G ?a19 ?l19 ?c19 ?k19
      (case a19 => k_is)
      (case l19 => k_is)
      (case c19 => k_is)
      (case k19 => k_is)
    case d20 =>
      refine' K31.d__law_word KX G ?a20 ?l20 ?c20 ?k20
      (case a20 => k_is)
      (case l20 => k_is)
      (case c20 => k_is)
      (case k20 => k_is)
    case d21 =>
      refine' K31.d__law_ends KX G ?a21 ?l21 ?c21 ?k21
      (case a21 => k_is)
      (case l21 => k_is)
      (case c21 => k_is)
      (case k21 => k_is)
    case d22 =>
      refine' K31.d__law_marks KX G ?a22 ?l22 ?c22 ?k22
      (case a22 => k_is)
      (case l22 => k_is)
      (case c22 => k_is)
      (case k22 => k_is)
    case d23 =>
      refine' K31.d__law_made KX G ?a23 ?l23 ?c23 ?k23
      (case a23 => k_is)
      (case l23 => k_is)
      (case c23 => k_is)
      (case k23 => k_is)
    case d24 =>
      refine' K31.d__law_core KX G ?a24 ?l24 ?c24 ?k24
      (case a24 => k_is)
      (case l24 => k_is)
      (case c24 => k_is)
      (case k24 => k_is)
    case d25 =>
      refine' K31.d__law_gaps KX G ?a25 ?l25 ?c25 ?k25
      (case a25 => k_is)
      (case l25 => k_is)
      (case c25 => k_is)
      (case k25 => k_is)
    case d26 =>
      refine' K31.d__law_grown KX G ?a26 ?l26 ?c26 ?k26
      (case a26 => k_is)
      (case l26 => k_is)
      (case c26 => k_is)
      (case k26 => k_is)
    case d27 =>
      refine' K31.d__law_rows KX G ?a27 ?l27 ?c27 ?k27
      (case a27 => k_is)
      (case l27 => k_is)
      (case c27 => k_is)
      (case k27 => k_is)
    case d28 =>
      refine' K31.d__law_power KX G ?a28 ?l28 ?c28 ?k28
      (case a28 => k_is)
      (case l28 => k_is)
      (case c28 => k_is)
      (case k28 => k_is)
    case y =>
      refine' K31.nms_mk KX G ?n0 ?n1 ?n2 ?n3 ?n4 ?n5 ?n6 ?n7 ?n8 ?n9 ?n10 ?n11 ?n12 ?z0 ?z1 ?z2 ?z3 ?z4
      (case n0 => k_is)
      (case n1 => k_is)
      (case n2 => k_is)
      (case n3 => k_is)
      (case n4 => k_is)
      (case n5 => k_is)
      (case n6 => k_is)
      (case n7 => k_is)
      (case n8 => k_is)
      (case n9 => k_is)
      (case n10 => k_is)
      (case n11 => k_is)
      (case n12 => k_is)
      (case z0 => k_is)
      (case z1 => k_is)
      (case z2 => k_is)
      (case z3 => k_is)
      (case z4 => k_is)
    (case aa => k_is)
    (case ll => k_is)
    (case cc => k_is)
    (case kk => k_is)
