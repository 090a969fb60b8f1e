import PyProof.Rows.All
import Wide.All
import OpenK.AllK
import Wide.FinOn
import HandS.ForMost
import HandS.Deep
import HandS.Conv
import HandS.IsInst
import HandS.TupLe
import HandS.TupAny
import HandS.Walk
import KE.DataMinMax
import HandS.Codes
import HandS.Defaults
import KE.DatumOrd
import HandS.WordsExc
import HandS.Head0
import HandS.Head1
import HandS.Head2
import HandS.HeadEnd
import HandS.HeadHook1
import HandS.HeadHook2
import PySem.Challenge.RW_twainkeep_k60_whole_no_way_costs_less
set_option Elab.async false
set_option linter.all false
set_option maxRecDepth 100000
set_option maxHeartbeats 0
namespace Tk
open PySem PySem.Spec PyProof.Rows L2

/-! ### heaps and their parts -/
abbrev As := Addr → Bool
/-- the heap without the addresses of S -/
def ex (S : As) (H : Hp) : Hp := fun a => bif S a then none else H a
/-- the addresses that H knows -/
def dm (H : Hp) : As := fun a => (H a).isSome
/-- what is new in H' -/
abbrev nw (H H' : Hp) : Hp := ex (dm H) H'
def S0 : As := fun _ => false
def one (l : Addr) : As := fun a => decide (a = l)
def uni (S T : As) : As := fun a => S a || T a
def Le (S T : As) : Prop := ∀ a, S a = true → T a = true
/-- all outside S is as it was, nothing is gone -/
def Kp (S : As) (H H' : Hp) : Prop := (∀ a o, S a = false → H a = some o → H' a = some o) ∧ (∀ a o, H a = some o → ∃ o', H' a = some o')

theorem ex_out {S : As} {H : Hp} {a : Addr} (h : S a = false) : ex S H a = H a := by unfold ex; rw [h]; rfl
theorem ex_in {S : As} {H : Hp} {a : Addr} (h : S a = true) : ex S H a = none := by unfold ex; rw [h]; rfl
theorem of_ex {S : As} {H : Hp} {a : Addr} {o : HO} (h : ex S H a = some o) : S a = false ∧ H a = some o := by
  cases e : S a with
  | true => rw [ex_in e] at h; cases h
  | false => rw [ex_out e] at h; exact ⟨rfl, h⟩
theorem ex_same (S : As) (H : Hp) : Same (ex S H) H := fun _ _ h => (of_ex h).2
theorem ex_S0 (H : Hp) : ex S0 H = H := rfl
theorem dm_some {H : Hp} {a : Addr} {o : HO} (h : H a = some o) : dm H a = true := by unfold dm; rw [h]; rfl
theorem dm_none {H : Hp} {a : Addr} (h : H a = none) : dm H a = false := by unfold dm; rw [h]; rfl
theorem of_dm {H : Hp} {a : Addr} (h : dm H a = true) : ∃ o, H a = some o := by
  unfold dm at h
  cases e : H a with
  | none => rw [e] at h; cases h
  | some o => exact ⟨o, rfl⟩
theorem of_dmF {H : Hp} {a : Addr} (h : dm H a = false) : H a = none := by
  unfold dm at h
  cases e : H a with
  | none => rfl
  | some o => rw [e] at h; cases h
theorem Le.refl (S : As) : Le S S := fun _ h => h
theorem Le.trans {S T U : As} (a : Le S T) (b : Le T U) : Le S U := fun x h => b x (a x h)
theorem le_S0 (S : As) : Le S0 S := fun _ h => nomatch h
theorem le_uni {S T U : As} (a : Le S U) (b : Le T U) : Le (uni S T) U := fun x h => by
  unfold uni at h
  cases e : S x with
  | true => exact a x e
  | false => rw [e, Bool.false_or] at h; exact b x h
theorem le_uniL (S T : As) : Le S (uni S T) := fun x h => by unfold uni; rw [h]; rfl
theorem le_uniR (S T : As) : Le T (uni S T) := fun x h => by unfold uni; rw [h]; exact Bool.or_true _
theorem le_one {l : Addr} {S : As} (h : S l = true) : Le (one l) S := fun x e => by
  have e2 : x = l := of_decide_eq_true e
  rw [e2]; exact h
theorem one_self (l : Addr) : one l l = true := decide_eq_true rfl
theorem one_ne {a l : Addr} (h : a ≠ l) : one l a = false := decide_eq_false h
theorem uni_or {S T : As} {a : Addr} (h1 : S a = false) (h2 : T a = false) : uni S T a = false := by unfold uni; rw [h1, h2]; rfl
theorem leF {S T : As} {a : Addr} (l : Le S T) (h : T a = false) : S a = false := by
  cases e : S a with
  | false => rfl
  | true => rw [l a e] at h; cases h
theorem ex_le {S T : As} (H : Hp) (l : Le S T) : Same (ex T H) (ex S H) := fun a o h => by
  obtain ⟨h1, h2⟩ := of_ex h
  rw [ex_out (leF l h1)]; exact h2
theorem Kp.refl (S : As) (H : Hp) : Kp S H H := ⟨fun _ _ _ h => h, fun _ o h => ⟨o, h⟩⟩
theorem Kp.of {S : As} {H H' : Hp} (s : Same H H') : Kp S H H' := ⟨fun a o _ h => s a o h, fun a o h => ⟨o, s a o h⟩⟩
theorem Kp.trans {S : As} {H H1 H2 : Hp} (a : Kp S H H1) (b : Kp S H1 H2) : Kp S H H2 :=
  ⟨fun x o e h => b.1 x o e (a.1 x o e h), fun x o h => let ⟨o', h'⟩ := a.2 x o h; b.2 x o' h'⟩
theorem Kp.mono {S T : As} {H H' : Hp} (k : Kp S H H') (l : Le S T) : Kp T H H' := ⟨fun x o e h => k.1 x o (leF l e) h, k.2⟩
theorem Kp.ex {S : As} {H H' : Hp} (k : Kp S H H') : Same (ex S H) (ex S H') := fun a o h => by
  obtain ⟨h1, h2⟩ := of_ex h
  rw [ex_out h1]; exact k.1 a o h1 h2
theorem Kp.same {H H' : Hp} (k : Kp S0 H H') : Same H H' := fun a o h => k.1 a o rfl h
theorem Kp.write {S : As} {H : Hp} {l : Addr} {o o' : HO} (hl : S l = true) (h : H l = some o) : Kp S H (upd H l o') := by
  refine ⟨fun a u e g => ?_, fun a u g => ?_⟩
  · rw [upd_ne (fun z => by rw [z, hl] at e; cases e)]; exact g
  · by_cases z : a = l
    · exact ⟨o', by rw [z]; exact upd_same⟩
    · exact ⟨u, by rw [upd_ne z]; exact g⟩
theorem same_new {H : Hp} {p : Addr} {o : HO} (h : H p = none) : Same H (upd H p o) := fun a u e => by
  rw [upd_ne (ne_of_none e h)]; exact e
theorem Kp.new {S : As} {H : Hp} {p : Addr} {o : HO} (h : H p = none) : Kp S H (upd H p o) := .of (same_new h)
theorem Kp.dm {S : As} {H H' : Hp} (k : Kp S H H') : Le (dm H) (dm H') := fun a h => by
  obtain ⟨o, e⟩ := of_dm h
  obtain ⟨o', e'⟩ := k.2 a o e
  exact dm_some e'
theorem same_dm {H H' : Hp} (s : Same H H') : Le (dm H) (dm H') := (Kp.of (S := S0) s).dm
theorem Kp.free {S : As} {H H' : Hp} (k : Kp S H H') {p : Addr} (h : H' p = none) : H p = none := by
  cases e : H p with
  | none => rfl
  | some o => obtain ⟨o', e'⟩ := k.2 p o e; rw [e'] at h; cases h
/-- the object l of S is written: S's view does not see it -/
theorem ex_upd {S : As} {H : Hp} {l : Addr} {o : HO} (hl : S l = true) : ex S (upd H l o) = ex S H := by
  funext a
  by_cases z : a = l
  · rw [z, ex_in hl, ex_in hl]
  · cases e : S a with
    | true => rw [ex_in e, ex_in e]
    | false => rw [ex_out e, ex_out e, upd_ne z]
theorem nw_le {S : As} {H H' : Hp} (l : Le S (dm H)) : Same (nw H H') (ex S H') := ex_le H' l
theorem nw_ex {H H1 H2 : Hp} (s : Same H1 H2) : Same (nw H H1) (nw H H2) := (Kp.of (S := dm H) s).ex
theorem nw_nw {H H1 H2 : Hp} (s : Le (dm H) (dm H1)) : Same (nw H1 H2) (nw H H2) := ex_le H2 s

/-! ### data -/
theorem rd_mono {H H' : Hp} {a : Addr} {u : HO} (s : Same H H') (h : Rd H a u) : Rd H' a u := by
  rcases h with h | ⟨o, h⟩
  · exact .inl (s _ _ h)
  · exact .inr ⟨o, s _ _ h⟩
theorem sqL_mono {K : PySem.W.Frag} {H H' : Hp} {a : Addr} {xs : List V} (s : Same H H') (h : SqL K H a xs) : SqL K H' a xs := s.seq h
theorem sqT_mono {K : PySem.W.Frag} {H H' : Hp} {a : Addr} {xs : List V} (s : Same H H') (h : SqT K H a xs) : SqT K H' a xs := by
  rcases h with h | h
  · exact .inl (rd_mono s h)
  · exact .inr h
mutual
theorem dp_mono {K : PySem.W.Frag} {H H' : Hp} (s : Same H H') : ∀ (d : PyData) (v : V), Dp K H v d → Dp K H' v d
  | .none, _, h => by cases h; exact .non
  | .bool b, _, h => by cases h; exact .bl b
  | .int i, _, h => by cases h; exact .int i
  | .str x, _, h => by cases h; exact .str x
  | .list ds, _, h => by
    cases h with
    | lst hs ha => exact .lst (sqL_mono s hs) (dpAll_mono s ds _ ha)
  | .tuple ds, _, h => by
    cases h with
    | tup hs ha => exact .tup (sqT_mono s hs) (dpAll_mono s ds _ ha)
  | .dict _, _, h => by cases h
theorem dpAll_mono {K : PySem.W.Frag} {H H' : Hp} (s : Same H H') : ∀ (ds : List PyData) (vs : List V), DpAll K H vs ds → DpAll K H' vs ds
  | [], _, h => by cases h; exact .nil
  | d :: ds, _, h => by
    cases h with
    | cons h1 h2 => exact .cons (dp_mono s d _ h1) (dpAll_mono s ds _ h2)
end
theorem dp_up {K : PySem.W.Frag} {H H' : Hp} {v : V} {d : PyData} (h : Dp K H v d) (s : Same H H') : Dp K H' v d := dp_mono s d v h
theorem dpa_up {K : PySem.W.Frag} {H H' : Hp} {vs : List V} {ds : List PyData} (h : DpAll K H vs ds) (s : Same H H') : DpAll K H' vs ds := dpAll_mono s ds vs h
theorem dpa_len {K : PySem.W.Frag} {H : Hp} : ∀ {vs : List V} {ds : List PyData}, DpAll K H vs ds → vs.length = ds.length
  | _, _, .nil => rfl
  | _, _, .cons _ t => by rw [List.length_cons, List.length_cons, dpa_len t]
theorem dpa_get {K : PySem.W.Frag} {H : Hp} : ∀ {vs : List V} {ds : List PyData} {i : Nat} {d : PyData}, DpAll K H vs ds → ds[i]? = some d → ∃ v, vs[i]? = some v ∧ Dp K H v d
  | _, _, _, _, .nil, e => by simp at e
  | _, _, 0, _, .cons h _, e => by
    have e' := Option.some.inj e
    subst e'
    exact ⟨_, rfl, h⟩
  | _, _, i + 1, d, .cons _ t, e => by
    obtain ⟨v, h1, h2⟩ := dpa_get (i := i) t (by simpa using e)
    exact ⟨v, by simpa using h1, h2⟩
theorem dpa_of {K : PySem.W.Frag} {H : Hp} : ∀ {vs : List V} {ds : List PyData} {i : Nat} {v : V}, DpAll K H vs ds → vs[i]? = some v → ∃ d, ds[i]? = some d ∧ Dp K H v d
  | _, _, _, _, .nil, e => by simp at e
  | _, _, 0, _, .cons h _, e => by
    have e' := Option.some.inj e
    subst e'
    exact ⟨_, rfl, h⟩
  | _, _, i + 1, d, .cons _ t, e => by
    obtain ⟨v, h1, h2⟩ := dpa_of (i := i) t (by simpa using e)
    exact ⟨v, by simpa using h1, h2⟩
theorem dpa_app {K : PySem.W.Frag} {H : Hp} : ∀ {vs ws : List V} {ds es : List PyData}, DpAll K H vs ds → DpAll K H ws es → DpAll K H (vs ++ ws) (ds ++ es)
  | _, _, _, _, .nil, k => k
  | _, _, _, _, .cons h t, k => .cons h (dpa_app t k)
theorem dpa_one {K : PySem.W.Frag} {H : Hp} {v : V} {d : PyData} (h : Dp K H v d) : DpAll K H [v] [d] := .cons h .nil
theorem dpa_snoc {K : PySem.W.Frag} {H : Hp} {vs : List V} {ds : List PyData} {v : V} {d : PyData} (a : DpAll K H vs ds) (h : Dp K H v d) : DpAll K H (vs ++ [v]) (ds ++ [d]) := dpa_app a (dpa_one h)
theorem dp_int {K : PySem.W.Frag} {H : Hp} {v : V} {i : Int} (h : Dp K H v (.int i)) : v = .int i := by cases h; rfl
theorem dp_str {K : PySem.W.Frag} {H : Hp} {v : V} {i : Str} (h : Dp K H v (.str i)) : v = .str i := by cases h; rfl
theorem dp_bl {K : PySem.W.Frag} {H : Hp} {v : V} {i : Bool} (h : Dp K H v (.bool i)) : v = .bl i := by cases h; rfl
theorem dp_tup {K : PySem.W.Frag} {H : Hp} {v : V} {ds : List PyData} (h : Dp K H v (.tuple ds)) : ∃ a xs, v = .ref a ∧ SqT K H a xs ∧ DpAll K H xs ds := by
  cases h with
  | tup hs ha => exact ⟨_, _, rfl, hs, ha⟩
theorem dp_lst {K : PySem.W.Frag} {H : Hp} {v : V} {ds : List PyData} (h : Dp K H v (.list ds)) : ∃ a xs, v = .ref a ∧ SqL K H a xs ∧ DpAll K H xs ds := by
  cases h with
  | lst hs ha => exact ⟨_, _, rfl, hs, ha⟩
theorem dpAll_ints {K : PySem.W.Frag} {H : Hp} : ∀ {vs : List V} {ns : List Int}, DpAll K H vs (ns.map .int) → vs = ns.map V.int
  | _, [], h => by cases h; rfl
  | _, n :: ns, h => by
    rw [List.map_cons] at h
    cases h with
    | cons h1 h2 => rw [dp_int h1, dpAll_ints h2]; rfl
theorem dpAll_strs {K : PySem.W.Frag} {H : Hp} : ∀ {vs : List V} {ns : List Str}, DpAll K H vs (ns.map .str) → vs = ns.map V.str
  | _, [], h => by cases h; rfl
  | _, n :: ns, h => by
    rw [List.map_cons] at h
    cases h with
    | cons h1 h2 => rw [dp_str h1, dpAll_strs h2]; rfl
theorem dpAll_bls {K : PySem.W.Frag} {H : Hp} : ∀ {vs : List V} {ns : List Bool}, DpAll K H vs (ns.map .bool) → vs = ns.map V.bl
  | _, [], h => by cases h; rfl
  | _, n :: ns, h => by
    rw [List.map_cons] at h
    cases h with
    | cons h1 h2 => rw [dp_bl h1, dpAll_bls h2]; rfl
theorem ints_dp {K : PySem.W.Frag} {H : Hp} : ∀ (ns : List Int), DpAll K H (ns.map V.int) (ns.map .int)
  | [] => .nil
  | n :: ns => .cons (.int n) (ints_dp ns)
theorem strs_dp {K : PySem.W.Frag} {H : Hp} : ∀ (ns : List Str), DpAll K H (ns.map V.str) (ns.map .str)
  | [] => .nil
  | n :: ns => .cons (.str n) (strs_dp ns)
end Tk
namespace Tk
open PySem PySem.Spec PyProof.Rows L2

/-! ### the text by places -/
def topS (i : Nat) : Stmt := PySem.Challenge.pw_twainkeep_k60_whole_no_way_costs_less.main.body.getD i (.Pass ⟨0, 0, 0, 0⟩)
def metS (j : Nat) : Stmt := inClass (topS 10) j

/-! ### a def as it stands behind the top -/
def Dn (K : PySem.W.Frag) (mg : Str → Option Value) (x : Str) (st : Stmt) : Prop := ∃ f fd, FunD K x x (defArgs st) (defBody st) (defScope st) [] [] f fd ∧ mg x = some (.ref f)
def Mn (K : PySem.W.Frag) (C : Addr) (m qual : Str) (st : Stmt) : Prop := ∃ f fd, FunD K m qual (defArgs st) (defBody st) (defScope st) [] [] f fd ∧ Meth K C m f
def Ini (K : PySem.W.Frag) (C : Addr) (qual : Str) (st : Stmt) : Prop := ∃ f fd, FunD K "__init__" qual (defArgs st) (defBody st) (defScope st) [] [] f fd ∧ Mk K C f
/-- how a def binds its arguments -/
def Bnd (x qual : Str) (st : Stmt) (ps : List Str) : Prop := ∀ (kV doc pm : Value) (an : Option Addr) (cdv ct : Value) (us : List Value), us.length = ps.length → bindArgs (PySem.W.fnOf x qual (defArgs st) (defBody st) (defScope st) .none kV doc pm an cdv ct) ⟨us, []⟩ = pure (ps.zip us)
section
variable {P : Program} {w : World} {K : PySem.W.Frag} {mg : Str → Option Value} {base : Heap}
theorem calD {x : Str} {st : Stmt} {N ps : List Str} {k : Nat} {sp : Sp} (D : Dn K mg x st) (b : Bnd x x st ps) (S : FnScope N ps (defScope st)) (len : ∀ vs H Q E, sp vs H Q E → vs.length = ps.length)
    (hbody : ∀ (f : Addr) (cdv : Value) (A : Around) (outer : List Env) (s : Shared) (H : Hp) (vs : List V) (Q : VK) (E : XK), Room k (A.deeper (envOfC x (defScope st) s.heap.objs.size f cdv)) → sp vs H Q E →
      ∃ t, PSs (cxOf C8.CX0 P w K mg base N x (defScope st) f cdv A outer s H E).nox (defBody st) t ∧ t { nx := fun _ H' => Q .non H', rt := Q } (start N vs) H) : C8.Cal P w K mg base (k + 1) x sp [] := by
  obtain ⟨f, fd, F, hm⟩ := D
  refine ⟨f, fd, ps, [], F.ok S len fun cdv A outer s H vs Q E hr h => ?_, hm, F.kp, F.bindsN b, .nil⟩
  obtain ⟨t, p, q⟩ := hbody f cdv A outer s H vs Q E hr h
  exact ⟨t, PSs.nox p, q⟩
theorem metD {C : Addr} {m qual : Str} {st : Stmt} {N ps : List Str} {k : Nat} {sp : Sp} (c : Cls K C) (D : Mn K C m qual st) (b : Bnd m qual st ps) (S : FnScope N ps (defScope st)) (len : ∀ vs H Q E, sp vs H Q E → vs.length = ps.length)
    (hbody : ∀ (f : Addr) (cdv : Value) (A : Around) (outer : List Env) (s : Shared) (H : Hp) (vs : List V) (Q : VK) (E : XK), Room k (A.deeper (envOfC qual (defScope st) s.heap.objs.size f cdv)) → sp vs H Q E →
      ∃ t, PSs (cxOf C8.CX0 P w K mg base N qual (defScope st) f cdv A outer s H E).nox (defBody st) t ∧ t { nx := fun _ H' => Q .non H', rt := Q } (start N vs) H) : C8.Met P w K mg base (k + 1) C m sp [] := by
  obtain ⟨f, fd, F, hm⟩ := D
  refine ⟨f, fd, ps, [], c, hm, F.ok S len fun cdv A outer s H vs Q E hr h => ?_, F.bindsN b, .nil⟩
  obtain ⟨t, p, q⟩ := hbody f cdv A outer s H vs Q E hr h
  exact ⟨t, PSs.nox p, q⟩
theorem makD {C : Addr} {x qual : Str} {st : Stmt} {N ps : List Str} {k : Nat} {sp : Sp} (hx : mg x = some (.ref C)) (D : Ini K C qual st) (b : Bnd "__init__" qual st ps) (S : FnScope N ps (defScope st)) (len : ∀ vs H Q E, sp vs H Q E → vs.length = ps.length)
    (hbody : ∀ (f : Addr) (cdv : Value) (A : Around) (outer : List Env) (s : Shared) (H : Hp) (vs : List V) (Q : VK) (E : XK), Room k (A.deeper (envOfC qual (defScope st) s.heap.objs.size f cdv)) → sp vs H Q E →
      ∃ t, PSs (cxOf C8.CX0 P w K mg base N qual (defScope st) f cdv A outer s H E).nox (defBody st) t ∧ t { nx := fun _ H' => Q .non H', rt := Q } (start N vs) H) : C8.Mak P w K mg base (k + 1) x C sp [] := by
  obtain ⟨f, fd, F, hm⟩ := D
  refine ⟨f, fd, ps, [], hm, F.ok S len fun cdv A outer s H vs Q E hr h => ?_, hx, F.bindsN b, .nil⟩
  obtain ⟨t, p, q⟩ := hbody f cdv A outer s H vs Q E hr h
  exact ⟨t, PSs.nox p, q⟩
end
theorem un65 {A : Around} {k : Nat} (hr : Room k A) : A.units + 65 < cLine := by
  have := hr.un
  omega

theorem pe_din {X : Cx} {i o : Expr} {ty td : TE} {pos : Pos} (hu : X.A.units + 1 < cLine) (hi : PE X i ty) (ho : PE X o td) (h1 : behindInMarks .In o = false := by rfl) : PE X (.Compare i [.In] [o] pos) (tDIn ty td) := pe_cmp (pc_din hu hi ho) h1

/-! ### the rules that read the written part, K said -/
section
variable {X : Cx} (K : PySem.W.Frag) {e : Expr} {ta : TE} {pos : Pos} {f : Str}
theorem pe_fldK (h : X.K = K) (he : PE X e ta) (hb : attributeBase e f X.env (eval e X.env) = eval e X.env) : PE X (.Attribute e f pos) (tFld K ta f) := h ▸ pe_fld he hb
theorem ix_listK (h : X.K = K) : IxR X (rIxL K) := h ▸ ix_list
theorem ix_tupK (h : X.K = K) : IxR X (rIxT K) := h ▸ ix_tup
theorem pi_listK {tg l : Expr} {tl : TE} (h : X.K = K) (hl : PE X l tl) : PI X tg l (iList K tl) := h ▸ pi_list hl
theorem pi_tupK {tg l : Expr} {tl : TE} (h : X.K = K) (hl : PE X l tl) : PI X tg l (iTup K tl) := h ▸ pi_tup hl
theorem pg_tupK {es : List Expr} {k : Nat} {t : TGs} {n : Nat} (hK : X.K = K) (hc : X.calm = true) (h : PGs X es t)
    (hn : (assignEach es X.env).length = n := by rfl) (hst : (assignEach es X.env).findIdx? (·.1) = none := by rfl) : PG X (.Tuple es k pos) (gTup K n t) := hK ▸ pg_tup hc h hn hst
theorem cr_sumK (h : X.K = K) (hc : X.calm = true) : CallR X (.builtin "sum") (rSum K) := h ▸ cr_sum hc
theorem cr_minK (h : X.K = K) (hc : X.calm = true) : CallR X (.builtin "min") (rMin K) := h ▸ cr_min hc
theorem cr_anyK (h : X.K = K) (hc : X.calm = true) : CallR X (.builtin "any") (rAny K) := h ▸ cr_any hc
theorem cr_allK (h : X.K = K) (hc : X.calm = true) : CallR X (.builtin "all") (rAll K) := h ▸ cr_all hc
theorem call_isiK' (h : X.K = K) : CallR X (.builtin "isinstance") (rIsi K) := h ▸ call_isi
def rLenQ (K : PySem.W.Frag) : List V → Hp → VK → Prop := fun xs H Q => ∃ p ys, xs = [.ref p] ∧ (SqL K H p ys ∨ SqT K H p ys) ∧ Q (.int ys.length) H
theorem call_lenK (h : X.K = K) : CallR X (.builtin "len") (rLenQ K) := h ▸ call_len_seq
theorem op_eqDK (h : X.K = K) (hu : X.A.units + 64 < cLine) : OpR X (compareOp .Eq) (rEqD K) := h ▸ op_eqD hu
theorem op_neDK (h : X.K = K) (hu : X.A.units + 64 < cLine) : OpR X (compareOp .NotEq) (rNeD K) := h ▸ op_neD hu
theorem op_inDK (h : X.K = K) (hu : X.A.units + 65 < cLine) : OpR X (compareOp .In) (rInD K) := h ▸ op_inD hu
theorem op_notInDK (h : X.K = K) (hu : X.A.units + 65 < cLine) : OpR X (compareOp .NotIn) (rNotInD K) := h ▸ op_notInD hu
theorem op_inQK (h : X.K = K) : OpR X (compareOp .In) (rIn K false) := h ▸ op_in_seq
theorem op_notInQK (h : X.K = K) : OpR X (compareOp .NotIn) (rIn K true) := h ▸ op_notIn_seq
theorem sl_listK (h : X.K = K) : SlR X (rSlL K) := h ▸ sl_list
theorem sl_tupAK (h : X.K = K) : SlR X (rSlA K) := h ▸ sl_tupA
theorem pe_tupleOfK {a : Expr} {p : Pos} (h : X.K = K) (hg : Gl X "tuple") (hm : X.mg "tuple" = none) (ha : PE X a ta) (na : starEach [a] X.env = (false, eval a X.env) :: starEach [] X.env := by rfl) :
    PE X (.Call (.Name "tuple" p) [a] [] pos) (tThen ta (kTup K)) := h ▸ pe_tupleOf hg hm ha na
end

/-! ### min of a list of data: one of its items -/
def rMinD (K : PySem.W.Frag) : List V → Hp → VK → Prop := fun vs H Q => ∃ (a : Addr) (xs : List V) (ds : List PyData), vs = [V.ref a] ∧ SqL K H a xs ∧ DpAll K H xs ds ∧ ds ≠ [] ∧ PySem.W.AlikeAll ds ∧ PyData.depthAll ds ≤ 60 ∧
  ∀ (i : Nat) (x : V), xs[i]? = some x → Q x H
theorem cr_minD {X : Cx} (hc : X.calm = true) (hu : X.A.units + 65 < cLine) : CallR X (.builtin "min") (rMinD X.K) := by
  intro pins s σ H vs us Q I r h
  obtain ⟨a, xs, ds, rfl, hs, hd, hne, hal, hdp, q⟩ := h
  obtain ⟨its, rv, hl, hz⟩ := I.list hs
  rw [Vals.ref1 r]
  obtain ⟨as, hr⟩ := Dp.readsAll I ds xs its hd rv
  cases ds with
  | nil => exact absurd rfl hne
  | cons d ds =>
    refine PySem.W.min_list_data (I.ok.hd hc) hl.isList (vs := its.toArray) (x := d) (xs := ds) (as := as) hr hal (by omega) fun i v h' tk bs hi _ hk => ?_
    have hi2 : its[i]? = some v := by simpa using hi
    have hx : ∃ x, xs[i]? = some x := by
      cases e : xs[i]? with
      | some x => exact ⟨x, rfl⟩
      | none =>
        have := Vals.none_of rv e
        rw [hi2] at this
        cases this
    obtain ⟨x, hx⟩ := hx
    obtain ⟨u, e, ru⟩ := Vals.get rv hx
    rw [hi2] at e
    cases e
    exact ⟨x, H, I.kept hk, ru, q i x hx⟩
theorem cr_minDK {X : Cx} (K : PySem.W.Frag) (h : X.K = K) (hc : X.calm = true) (hu : X.A.units + 65 < cLine) : CallR X (.builtin "min") (rMinD K) := h ▸ cr_minD hc hu
end Tk
namespace Tk
open PySem PySem.Spec PyProof.Rows L2

theorem blkOk_eq {N N' : List Str} {sc sc' scope : Scope} {own : List (Str × Nat)} (h1 : N' = N) (h2 : sc' = sc) (h : blkC N sc scope own = true) : BlkOk N' sc' scope own := by
  subst h1 h2
  exact blkOk_by h

/-! ### the steps' data -/
def tN (xs : List Nat) : PyData := .tuple (xs.map fun (n : Nat) => PyData.int (n : Int))
abbrev Lk := List Nat × List Nat
abbrev Stp := List Lk
def lkD (l : Lk) : PyData := .tuple [tN l.1, tN l.2]
def stD (s : Stp) : PyData := .tuple (s.map lkD)
def prD2 (p : Nat × Nat) : PyData := .tuple [.int ((p.1 : Nat) : Int), .int ((p.2 : Nat) : Int)]
def SHP : List (Nat × Nat) := [(1, 1), (1, 2), (1, 3), (2, 1), (3, 1)]
def shapesD : PyData := .tuple (SHP.map prD2)

/-- the scopes of the two comprehensions that hold another -/
def scIn_least_way : Scope := match (defBody (topS 19)).getD 3 (.Pass ⟨0, 0, 0, 0⟩) with
  | .Assign _ (.Call _ [.ListComp _ _ sc _] _ _) _ => { sc with names := sc.names.map fun p => if (p.2 == NameKind.free) = true then (p.1, NameKind.cell) else p }
  | _ => defScope (topS 19)
def scIn__law_sides : Scope := match (defBody (topS 37)).getD 1 (.Pass ⟨0, 0, 0, 0⟩) with
  | .For _ _ [.Expr (.Call _ [.ListComp _ _ sc _] _ _) _] _ _ => sc
  | _ => defScope (topS 37)

/-- what the walk asks of the top -/
structure Txt (K : PySem.W.Frag) (mg : Str → Option Value) (C SH : Addr) : Prop where
  «len» : mg "len" = none
  «sum» : mg "sum" = none
  «any» : mg "any" = none
  «all» : mg "all" = none
  «min» : mg "min" = none
  «max» : mg "max" = none
  «abs» : mg "abs" = none
  «tuple» : mg "tuple" = none
  «range» : mg "range" = none
  «isinstance» : mg "isinstance" = none
  «int» : mg "int" = none
  «bool» : mg "bool" = none
  gFIGURES : ∃ u, mg "FIGURES" = some u ∧ RelV (.str "0123456789") u
  gSMALL : ∃ u, mg "SMALL" = some u ∧ RelV (.str "abcdefghijklmnopqrstuvwxyz") u
  gGREAT : ∃ u, mg "GREAT" = some u ∧ RelV (.str "ABCDEFGHIJKLMNOPQRSTUVWXYZ") u
  gBLANKS : ∃ u, mg "BLANKS" = some u ∧ RelV (.str " \n") u
  gSHAPES : ∃ u, mg "SHAPES" = some u ∧ RelV (.ref SH) u
  shapes : ∀ H, Dp K H (.ref SH) shapesD
  cl : Cls K C
  mgC : mg "Pricing" = some (.ref C)
  na_sizes : NoAttr K C "sizes"
  na_cores : NoAttr K C "cores"
  na_known : NoAttr K C "known"
  na_prices : NoAttr K C "prices"
  d_words_of : Dn K mg "words_of" (topS 5)
  d_cores_of : Dn K mg "cores_of" (topS 6)
  d_size_of : Dn K mg "size_of" (topS 7)
  d_noted : Dn K mg "noted" (topS 9)
  d_init : Ini K C "Pricing.__init__" (metS 0)
  d_stands : Mn K C "stands" "Pricing.stands" (metS 1)
  d_hits_at : Mn K C "hits_at" "Pricing.hits_at" (metS 2)
  d_link_cost : Mn K C "link_cost" "Pricing.link_cost" (metS 3)
  d_step_cost : Mn K C "step_cost" "Pricing.step_cost" (metS 4)
  d_steps_from : Dn K mg "steps_from" (topS 13)
  d_ends_at : Dn K mg "ends_at" (topS 14)
  d_cost_on : Dn K mg "cost_on" (topS 16)
  d_costs_left : Dn K mg "costs_left" (topS 17)
  d_first_way : Dn K mg "first_way" (topS 18)
  d_least_way : Dn K mg "least_way" (topS 19)
  d_are_wholes : Dn K mg "are_wholes" (topS 21)
  d_is_step : Dn K mg "is_step" (topS 22)
  d_way_cost : Dn K mg "way_cost" (topS 23)
  d_is_grid : Dn K mg "is_grid" (topS 24)
  d_holds : Dn K mg "holds" (topS 25)
  d_shows_found : Dn K mg "shows_found" (topS 26)
  d__law_next : Dn K mg "_law_next" (topS 28)
  d__law_state : Dn K mg "_law_state" (topS 29)
  d__law_list : Dn K mg "_law_list" (topS 30)
  d__law_text : Dn K mg "_law_text" (topS 31)
  d__law_texts : Dn K mg "_law_texts" (topS 32)
  d__law_known : Dn K mg "_law_known" (topS 33)
  d__law_prices : Dn K mg "_law_prices" (topS 34)
  d__law_drawn : Dn K mg "_law_drawn" (topS 35)
  d__law_cores : Dn K mg "_law_cores" (topS 36)
  d__law_sides : Dn K mg "_law_sides" (topS 37)
  d__law_link : Dn K mg "_law_link" (topS 38)
  d__law_step : Dn K mg "_law_step" (topS 39)
  d__law_steps : Dn K mg "_law_steps" (topS 40)
  d__law_on : Dn K mg "_law_on" (topS 41)
  d__law_any_way : Dn K mg "_law_any_way" (topS 42)
  d__law_paid : Dn K mg "_law_paid" (topS 43)
  d__law_through : Dn K mg "_law_through" (topS 44)
  d__law_grid_holds : Dn K mg "_law_grid_holds" (topS 45)
  d__law_whole : Dn K mg "_law_whole" (topS 46)
  d__law_wholes : Dn K mg "_law_wholes" (topS 47)
  d__law_kinds : Dn K mg "_law_kinds" (topS 48)
  d_law : Dn K mg "law" (topS 49)
end Tk
namespace Tk
open PySem PySem.Spec PyProof.Rows L2


/-! ### data of the written part -/
mutual
def kdat (K : PySem.W.Frag) : PyData → Value → Bool
  | .int j, .int i _ => decide (i = j)
  | .tuple ds, .ref a => (match K.lookup a with
    | some ⟨.type c, _, .seq its _, _⟩ => decide (c = "tuple") && (decide (its.size ≤ sizeLine) && kdats K ds its.toList)
    | _ => false)
  | _, _ => false
def kdats (K : PySem.W.Frag) : List PyData → List Value → Bool
  | [], [] => true
  | d :: ds, u :: us => kdat K d u && kdats K ds us
  | _, _ => false
end
mutual
theorem kdat_ok {K : PySem.W.Frag} (H : Hp) : ∀ (d : PyData) (u : Value), kdat K d u = true → ∃ v, RelV v u ∧ Dp K H v d
  | .int j, u, h => by
    cases u with
    | int i t => exact ⟨.int i, ⟨t, rfl⟩, by rw [show i = j from of_decide_eq_true (by unfold kdat at h; exact h)]; exact .int j⟩
    | _ => unfold kdat at h; cases h
  | .tuple ds, u, h => by
    cases u with
    | ref a =>
      unfold kdat at h
      cases q : K.lookup a with
      | none => rw [q] at h; cases h
      | some o =>
        obtain ⟨oc, od, dt, osl⟩ := o
        rw [q] at h
        cases oc with
        | type c =>
          cases dt with
          | seq its n =>
            have h' : (decide (c = "tuple") && (decide (its.size ≤ sizeLine) && kdats K ds its.toList)) = true := h
            rw [Bool.and_eq_true, Bool.and_eq_true] at h'
            obtain ⟨vs, r, k⟩ := kdats_ok H ds its.toList h'.2.2
            refine ⟨.ref a, rfl, .tup (.inr ⟨_, its, n, q, congrArg Value.type (of_decide_eq_true h'.1), rfl, of_decide_eq_true h'.2.1, r⟩) k⟩
          | _ => cases h
        | _ => cases dt <;> cases h
    | _ => unfold kdat at h; cases h
  | .none, u, h => by unfold kdat at h; cases u <;> cases h
  | .bool _, u, h => by unfold kdat at h; cases u <;> cases h
  | .str _, u, h => by unfold kdat at h; cases u <;> cases h
  | .list _, u, h => by unfold kdat at h; cases u <;> cases h
  | .dict _, u, h => by unfold kdat at h; cases u <;> cases h
theorem kdats_ok {K : PySem.W.Frag} (H : Hp) : ∀ (ds : List PyData) (us : List Value), kdats K ds us = true → ∃ vs, Vals vs us ∧ DpAll K H vs ds
  | [], [], _ => ⟨[], .nil, .nil⟩
  | d :: ds, u :: us, h => by
    unfold kdats at h
    rw [Bool.and_eq_true] at h
    obtain ⟨v, r, k⟩ := kdat_ok H d u h.1
    obtain ⟨vs, r2, k2⟩ := kdats_ok H ds us h.2
    exact ⟨v :: vs, .cons r r2, .cons k k2⟩
  | [], _ :: _, h => by unfold kdats at h; cases h
  | _ :: _, [], h => by unfold kdats at h; cases h
end
/-! ### the hook: facts by names, and the shapes -/
def shpB (K : PySem.W.Frag) : Bool := kdat K shapesD (.ref (He.ga K "SHAPES"))
theorem shpB_ok {K : PySem.W.Frag} (h : shpB K = true) (H : Hp) : Dp K H (.ref (He.ga K "SHAPES")) shapesD := by
  obtain ⟨v, r, d⟩ := kdat_ok H shapesD _ h
  cases v with
  | ref a => cases r; exact d
  | _ => first | (cases r; done) | (obtain ⟨_, e⟩ := r; cases e)
abbrev AlX : Type := He.AlD × Bool
def obsX (fa : List He.Fa) (fn : List He.DefD) (K : PySem.W.Frag) : AlX := (He.obsD fa fn K, shpB K)
def obsXG (n : Nat) (fa : List He.Fa) (fn : List He.DefD) (g : Addr → Option Obj) : AlX := obsX fa fn (He.frG g (He.asD g n))
def hookX (n : Nat) (fa : List He.Fa) (fn : List He.DefD) : PySem.W.Hook where
  α := AlX
  obs := fun s => obsXG n fa fn s.heap.get?
  val := fun _ => (He.valD fn, true)
  says := fun _ h => ∃ K : PySem.W.Frag, K.In h ∧ obsX fa fn K = (He.valD fn, true)
  of := fun _ _ e => ⟨_, He.frG_in, e⟩
  keeps := fun _ _ _ ⟨K, hK, c⟩ k => ⟨K, PySem.W.Frag.In.keeps hK k, c⟩
theorem obsXG_eq {n : Nat} {fa : List He.Fa} {fn : List He.DefD} {g : Addr → Option Obj} {s : Shared} (h : ∀ a, g a = s.heap.get? a) : obsXG n fa fn g = (hookX n fa fn).obs s := by
  have e : g = s.heap.get? := funext h
  rw [e] <;> rfl

def fa : List He.Fa := [.free "len", .free "sum", .free "any", .free "all", .free "min", .free "max", .free "abs", .free "tuple", .free "range", .free "isinstance", .free "int", .free "bool", .str "FIGURES" "0123456789", .str "SMALL" "abcdefghijklmnopqrstuvwxyz", .str "GREAT" "ABCDEFGHIJKLMNOPQRSTUVWXYZ", .str "BLANKS" " \n", .glo "SHAPES", .cls "Pricing", .glo "Pricing", .noat "Pricing" "sizes", .noat "Pricing" "cores", .noat "Pricing" "known", .noat "Pricing" "prices", .mkr "Pricing", .meth "Pricing" "stands", .meth "Pricing" "hits_at", .meth "Pricing" "link_cost", .meth "Pricing" "step_cost", .glo "words_of", .glo "cores_of", .glo "size_of", .glo "noted", .glo "steps_from", .glo "ends_at", .glo "cost_on", .glo "costs_left", .glo "first_way", .glo "least_way", .glo "are_wholes", .glo "is_step", .glo "way_cost", .glo "is_grid", .glo "holds", .glo "shows_found", .glo "_law_next", .glo "_law_state", .glo "_law_list", .glo "_law_text", .glo "_law_texts", .glo "_law_known", .glo "_law_prices", .glo "_law_drawn", .glo "_law_cores", .glo "_law_sides", .glo "_law_link", .glo "_law_step", .glo "_law_steps", .glo "_law_on", .glo "_law_any_way", .glo "_law_paid", .glo "_law_through", .glo "_law_grid_holds", .glo "_law_whole", .glo "_law_wholes", .glo "_law_kinds", .glo "law"]
def fn : List He.DefD := [
  ⟨("words_of", none), "words_of", "words_of", defArgs (topS 5), defBody (topS 5), defScope (topS 5), [], []⟩,
  ⟨("cores_of", none), "cores_of", "cores_of", defArgs (topS 6), defBody (topS 6), defScope (topS 6), [], []⟩,
  ⟨("size_of", none), "size_of", "size_of", defArgs (topS 7), defBody (topS 7), defScope (topS 7), [], []⟩,
  ⟨("noted", none), "noted", "noted", defArgs (topS 9), defBody (topS 9), defScope (topS 9), [], []⟩,
  ⟨("Pricing", some "__init__"), "__init__", "Pricing.__init__", defArgs (metS 0), defBody (metS 0), defScope (metS 0), [], []⟩,
  ⟨("Pricing", some "stands"), "stands", "Pricing.stands", defArgs (metS 1), defBody (metS 1), defScope (metS 1), [], []⟩,
  ⟨("Pricing", some "hits_at"), "hits_at", "Pricing.hits_at", defArgs (metS 2), defBody (metS 2), defScope (metS 2), [], []⟩,
  ⟨("Pricing", some "link_cost"), "link_cost", "Pricing.link_cost", defArgs (metS 3), defBody (metS 3), defScope (metS 3), [], []⟩,
  ⟨("Pricing", some "step_cost"), "step_cost", "Pricing.step_cost", defArgs (metS 4), defBody (metS 4), defScope (metS 4), [], []⟩,
  ⟨("steps_from", none), "steps_from", "steps_from", defArgs (topS 13), defBody (topS 13), defScope (topS 13), [], []⟩,
  ⟨("ends_at", none), "ends_at", "ends_at", defArgs (topS 14), defBody (topS 14), defScope (topS 14), [], []⟩,
  ⟨("cost_on", none), "cost_on", "cost_on", defArgs (topS 16), defBody (topS 16), defScope (topS 16), [], []⟩,
  ⟨("costs_left", none), "costs_left", "costs_left", defArgs (topS 17), defBody (topS 17), defScope (topS 17), [], []⟩,
  ⟨("first_way", none), "first_way", "first_way", defArgs (topS 18), defBody (topS 18), defScope (topS 18), [], []⟩,
  ⟨("least_way", none), "least_way", "least_way", defArgs (topS 19), defBody (topS 19), defScope (topS 19), [], []⟩,
  ⟨("are_wholes", none), "are_wholes", "are_wholes", defArgs (topS 21), defBody (topS 21), defScope (topS 21), [], []⟩,
  ⟨("is_step", none), "is_step", "is_step", defArgs (topS 22), defBody (topS 22), defScope (topS 22), [], []⟩,
  ⟨("way_cost", none), "way_cost", "way_cost", defArgs (topS 23), defBody (topS 23), defScope (topS 23), [], []⟩,
  ⟨("is_grid", none), "is_grid", "is_grid", defArgs (topS 24), defBody (topS 24), defScope (topS 24), [], []⟩,
  ⟨("holds", none), "holds", "holds", defArgs (topS 25), defBody (topS 25), defScope (topS 25), [], []⟩,
  ⟨("shows_found", none), "shows_found", "shows_found", defArgs (topS 26), defBody (topS 26), defScope (topS 26), [], []⟩,
  ⟨("_law_next", none), "_law_next", "_law_next", defArgs (topS 28), defBody (topS 28), defScope (topS 28), [], []⟩,
  ⟨("_law_state", none), "_law_state", "_law_state", defArgs (topS 29), defBody (topS 29), defScope (topS 29), [], []⟩,
  ⟨("_law_list", none), "_law_list", "_law_list", defArgs (topS 30), defBody (topS 30), defScope (topS 30), [], []⟩,
  ⟨("_law_text", none), "_law_text", "_law_text", defArgs (topS 31), defBody (topS 31), defScope (topS 31), [], []⟩,
  ⟨("_law_texts", none), "_law_texts", "_law_texts", defArgs (topS 32), defBody (topS 32), defScope (topS 32), [], []⟩,
  ⟨("_law_known", none), "_law_known", "_law_known", defArgs (topS 33), defBody (topS 33), defScope (topS 33), [], []⟩,
  ⟨("_law_prices", none), "_law_prices", "_law_prices", defArgs (topS 34), defBody (topS 34), defScope (topS 34), [], []⟩,
  ⟨("_law_drawn", none), "_law_drawn", "_law_drawn", defArgs (topS 35), defBody (topS 35), defScope (topS 35), [], []⟩,
  ⟨("_law_cores", none), "_law_cores", "_law_cores", defArgs (topS 36), defBody (topS 36), defScope (topS 36), [], []⟩,
  ⟨("_law_sides", none), "_law_sides", "_law_sides", defArgs (topS 37), defBody (topS 37), defScope (topS 37), [], []⟩,
  ⟨("_law_link", none), "_law_link", "_law_link", defArgs (topS 38), defBody (topS 38), defScope (topS 38), [], []⟩,
  ⟨("_law_step", none), "_law_step", "_law_step", defArgs (topS 39), defBody (topS 39), defScope (topS 39), [], []⟩,
  ⟨("_law_steps", none), "_law_steps", "_law_steps", defArgs (topS 40), defBody (topS 40), defScope (topS 40), [], []⟩,
  ⟨("_law_on", none), "_law_on", "_law_on", defArgs (topS 41), defBody (topS 41), defScope (topS 41), [], []⟩,
  ⟨("_law_any_way", none), "_law_any_way", "_law_any_way", defArgs (topS 42), defBody (topS 42), defScope (topS 42), [], []⟩,
  ⟨("_law_paid", none), "_law_paid", "_law_paid", defArgs (topS 43), defBody (topS 43), defScope (topS 43), [], []⟩,
  ⟨("_law_through", none), "_law_through", "_law_through", defArgs (topS 44), defBody (topS 44), defScope (topS 44), [], []⟩,
  ⟨("_law_grid_holds", none), "_law_grid_holds", "_law_grid_holds", defArgs (topS 45), defBody (topS 45), defScope (topS 45), [], []⟩,
  ⟨("_law_whole", none), "_law_whole", "_law_whole", defArgs (topS 46), defBody (topS 46), defScope (topS 46), [], []⟩,
  ⟨("_law_wholes", none), "_law_wholes", "_law_wholes", defArgs (topS 47), defBody (topS 47), defScope (topS 47), [], []⟩,
  ⟨("_law_kinds", none), "_law_kinds", "_law_kinds", defArgs (topS 48), defBody (topS 48), defScope (topS 48), [], []⟩,
  ⟨("law", none), "law", "law", defArgs (topS 49), defBody (topS 49), defScope (topS 49), [], []⟩]
def loose1 : List Str := ["__name__", "FIGURES", "SMALL", "GREAT", "BLANKS", "SHAPES", "Pricing", "words_of", "cores_of", "size_of", "noted", "steps_from", "ends_at", "cost_on", "costs_left", "first_way", "least_way", "are_wholes", "is_step", "way_cost", "is_grid", "holds", "shows_found", "_law_next", "_law_state"]
def loose2 : List Str := ["_law_list", "_law_text", "_law_texts", "_law_known", "_law_prices", "_law_drawn", "_law_cores", "_law_sides", "_law_link", "_law_step", "_law_steps", "_law_on", "_law_any_way", "_law_paid", "_law_through", "_law_grid_holds", "_law_whole", "_law_wholes", "_law_kinds"]
def loose : List Str := loose1 ++ loose2
abbrev RR : PySem.W.OpenRow := PySem.W.OpenLaw.row PySem.Challenge.rw_twainkeep_k60_whole_no_way_costs_less
abbrev hk : PySem.W.Hook := hookX 5 fa fn
def ob (s : PySem.W.SharedT) : AlX := obsXG 5 fa fn (HandSHeadRun.getT s)
theorem ob_eq (s : PySem.W.SharedT) : ob s = hk.obs s.abs := obsXG_eq (HandSHeadRun.getT_eq s)
theorem run (w : World) : HandSHeadRun.RunEq RR (PySem.W.view RR.prog [49]) hk ob 4000 loose w := by
  intro os
  kernel_rfl
end Tk
namespace Tk
open PySem PySem.Spec PyProof.Rows L2

theorem txt_of {K : PySem.W.Frag} {h : Heap} {mg : Str → Option Value} (X : K.In h) (G : h.Ns mainGlobals mg) (c : obsX fa fn K = (He.valD fn, true)) : Txt K mg (He.ga K "Pricing") (He.ga K "SHAPES") := by
  have cd : He.SaysD fa fn K := congrArg Prod.fst c
  have cs : shpB K = true := congrArg Prod.snd c
  exact { «len» := He.free_ok X G (cd.fact 0 rfl)
          «sum» := He.free_ok X G (cd.fact 1 rfl)
          «any» := He.free_ok X G (cd.fact 2 rfl)
          «all» := He.free_ok X G (cd.fact 3 rfl)
          «min» := He.free_ok X G (cd.fact 4 rfl)
          «max» := He.free_ok X G (cd.fact 5 rfl)
          «abs» := He.free_ok X G (cd.fact 6 rfl)
          «tuple» := He.free_ok X G (cd.fact 7 rfl)
          «range» := He.free_ok X G (cd.fact 8 rfl)
          «isinstance» := He.free_ok X G (cd.fact 9 rfl)
          «int» := He.free_ok X G (cd.fact 10 rfl)
          «bool» := He.free_ok X G (cd.fact 11 rfl)
          gFIGURES := let ⟨t, e⟩ := He.str_ok X G (cd.fact 12 rfl); ⟨_, e, t, rfl⟩
          gSMALL := let ⟨t, e⟩ := He.str_ok X G (cd.fact 13 rfl); ⟨_, e, t, rfl⟩
          gGREAT := let ⟨t, e⟩ := He.str_ok X G (cd.fact 14 rfl); ⟨_, e, t, rfl⟩
          gBLANKS := let ⟨t, e⟩ := He.str_ok X G (cd.fact 15 rfl); ⟨_, e, t, rfl⟩
          gSHAPES := ⟨_, He.glo_ok X G (cd.fact 16 rfl), rfl⟩
          shapes := shpB_ok cs
          cl := He.cls_ok (cd.fact 17 rfl)
          mgC := He.glo_ok X G (cd.fact 18 rfl)
          na_sizes := He.noat_ok (cd.fact 19 rfl)
          na_cores := He.noat_ok (cd.fact 20 rfl)
          na_known := He.noat_ok (cd.fact 21 rfl)
          na_prices := He.noat_ok (cd.fact 22 rfl)
          d_words_of := let ⟨fd, F⟩ := (He.SaysD.def_ cd 0 rfl); ⟨_, fd, F, He.glo_ok X G (cd.fact 28 rfl)⟩
          d_cores_of := let ⟨fd, F⟩ := (He.SaysD.def_ cd 1 rfl); ⟨_, fd, F, He.glo_ok X G (cd.fact 29 rfl)⟩
          d_size_of := let ⟨fd, F⟩ := (He.SaysD.def_ cd 2 rfl); ⟨_, fd, F, He.glo_ok X G (cd.fact 30 rfl)⟩
          d_noted := let ⟨fd, F⟩ := (He.SaysD.def_ cd 3 rfl); ⟨_, fd, F, He.glo_ok X G (cd.fact 31 rfl)⟩
          d_init := let ⟨fd, F⟩ := (He.SaysD.def_ cd 4 rfl); ⟨_, fd, F, He.mkr_ok (cd.fact 23 rfl)⟩
          d_stands := let ⟨fd, F⟩ := (He.SaysD.def_ cd 5 rfl); ⟨_, fd, F, He.meth_ok (cd.fact 24 rfl)⟩
          d_hits_at := let ⟨fd, F⟩ := (He.SaysD.def_ cd 6 rfl); ⟨_, fd, F, He.meth_ok (cd.fact 25 rfl)⟩
          d_link_cost := let ⟨fd, F⟩ := (He.SaysD.def_ cd 7 rfl); ⟨_, fd, F, He.meth_ok (cd.fact 26 rfl)⟩
          d_step_cost := let ⟨fd, F⟩ := (He.SaysD.def_ cd 8 rfl); ⟨_, fd, F, He.meth_ok (cd.fact 27 rfl)⟩
          d_steps_from := let ⟨fd, F⟩ := (He.SaysD.def_ cd 9 rfl); ⟨_, fd, F, He.glo_ok X G (cd.fact 32 rfl)⟩
          d_ends_at := let ⟨fd, F⟩ := (He.SaysD.def_ cd 10 rfl); ⟨_, fd, F, He.glo_ok X G (cd.fact 33 rfl)⟩
          d_cost_on := let ⟨fd, F⟩ := (He.SaysD.def_ cd 11 rfl); ⟨_, fd, F, He.glo_ok X G (cd.fact 34 rfl)⟩
          d_costs_left := let ⟨fd, F⟩ := (He.SaysD.def_ cd 12 rfl); ⟨_, fd, F, He.glo_ok X G (cd.fact 35 rfl)⟩
          d_first_way := let ⟨fd, F⟩ := (He.SaysD.def_ cd 13 rfl); ⟨_, fd, F, He.glo_ok X G (cd.fact 36 rfl)⟩
          d_least_way := let ⟨fd, F⟩ := (He.SaysD.def_ cd 14 rfl); ⟨_, fd, F, He.glo_ok X G (cd.fact 37 rfl)⟩
          d_are_wholes := let ⟨fd, F⟩ := (He.SaysD.def_ cd 15 rfl); ⟨_, fd, F, He.glo_ok X G (cd.fact 38 rfl)⟩
          d_is_step := let ⟨fd, F⟩ := (He.SaysD.def_ cd 16 rfl); ⟨_, fd, F, He.glo_ok X G (cd.fact 39 rfl)⟩
          d_way_cost := let ⟨fd, F⟩ := (He.SaysD.def_ cd 17 rfl); ⟨_, fd, F, He.glo_ok X G (cd.fact 40 rfl)⟩
          d_is_grid := let ⟨fd, F⟩ := (He.SaysD.def_ cd 18 rfl); ⟨_, fd, F, He.glo_ok X G (cd.fact 41 rfl)⟩
          d_holds := let ⟨fd, F⟩ := (He.SaysD.def_ cd 19 rfl); ⟨_, fd, F, He.glo_ok X G (cd.fact 42 rfl)⟩
          d_shows_found := let ⟨fd, F⟩ := (He.SaysD.def_ cd 20 rfl); ⟨_, fd, F, He.glo_ok X G (cd.fact 43 rfl)⟩
          d__law_next := let ⟨fd, F⟩ := (He.SaysD.def_ cd 21 rfl); ⟨_, fd, F, He.glo_ok X G (cd.fact 44 rfl)⟩
          d__law_state := let ⟨fd, F⟩ := (He.SaysD.def_ cd 22 rfl); ⟨_, fd, F, He.glo_ok X G (cd.fact 45 rfl)⟩
          d__law_list := let ⟨fd, F⟩ := (He.SaysD.def_ cd 23 rfl); ⟨_, fd, F, He.glo_ok X G (cd.fact 46 rfl)⟩
          d__law_text := let ⟨fd, F⟩ := (He.SaysD.def_ cd 24 rfl); ⟨_, fd, F, He.glo_ok X G (cd.fact 47 rfl)⟩
          d__law_texts := let ⟨fd, F⟩ := (He.SaysD.def_ cd 25 rfl); ⟨_, fd, F, He.glo_ok X G (cd.fact 48 rfl)⟩
          d__law_known := let ⟨fd, F⟩ := (He.SaysD.def_ cd 26 rfl); ⟨_, fd, F, He.glo_ok X G (cd.fact 49 rfl)⟩
          d__law_prices := let ⟨fd, F⟩ := (He.SaysD.def_ cd 27 rfl); ⟨_, fd, F, He.glo_ok X G (cd.fact 50 rfl)⟩
          d__law_drawn := let ⟨fd, F⟩ := (He.SaysD.def_ cd 28 rfl); ⟨_, fd, F, He.glo_ok X G (cd.fact 51 rfl)⟩
          d__law_cores := let ⟨fd, F⟩ := (He.SaysD.def_ cd 29 rfl); ⟨_, fd, F, He.glo_ok X G (cd.fact 52 rfl)⟩
          d__law_sides := let ⟨fd, F⟩ := (He.SaysD.def_ cd 30 rfl); ⟨_, fd, F, He.glo_ok X G (cd.fact 53 rfl)⟩
          d__law_link := let ⟨fd, F⟩ := (He.SaysD.def_ cd 31 rfl); ⟨_, fd, F, He.glo_ok X G (cd.fact 54 rfl)⟩
          d__law_step := let ⟨fd, F⟩ := (He.SaysD.def_ cd 32 rfl); ⟨_, fd, F, He.glo_ok X G (cd.fact 55 rfl)⟩
          d__law_steps := let ⟨fd, F⟩ := (He.SaysD.def_ cd 33 rfl); ⟨_, fd, F, He.glo_ok X G (cd.fact 56 rfl)⟩
          d__law_on := let ⟨fd, F⟩ := (He.SaysD.def_ cd 34 rfl); ⟨_, fd, F, He.glo_ok X G (cd.fact 57 rfl)⟩
          d__law_any_way := let ⟨fd, F⟩ := (He.SaysD.def_ cd 35 rfl); ⟨_, fd, F, He.glo_ok X G (cd.fact 58 rfl)⟩
          d__law_paid := let ⟨fd, F⟩ := (He.SaysD.def_ cd 36 rfl); ⟨_, fd, F, He.glo_ok X G (cd.fact 59 rfl)⟩
          d__law_through := let ⟨fd, F⟩ := (He.SaysD.def_ cd 37 rfl); ⟨_, fd, F, He.glo_ok X G (cd.fact 60 rfl)⟩
          d__law_grid_holds := let ⟨fd, F⟩ := (He.SaysD.def_ cd 38 rfl); ⟨_, fd, F, He.glo_ok X G (cd.fact 61 rfl)⟩
          d__law_whole := let ⟨fd, F⟩ := (He.SaysD.def_ cd 39 rfl); ⟨_, fd, F, He.glo_ok X G (cd.fact 62 rfl)⟩
          d__law_wholes := let ⟨fd, F⟩ := (He.SaysD.def_ cd 40 rfl); ⟨_, fd, F, He.glo_ok X G (cd.fact 63 rfl)⟩
          d__law_kinds := let ⟨fd, F⟩ := (He.SaysD.def_ cd 41 rfl); ⟨_, fd, F, He.glo_ok X G (cd.fact 64 rfl)⟩
          d_law := let ⟨fd, F⟩ := (He.SaysD.def_ cd 42 rfl); ⟨_, fd, F, He.glo_ok X G (cd.fact 65 rfl)⟩ }
end Tk
namespace Tk
open PySem PySem.Spec PyProof.Rows L2

/-! ### what is promised -/
/-- a value handed back, nothing known is changed -/
def RetF (v : V) (H : Hp) (Q : VK) : Prop := ∀ H', Same H H' → Q v H'
/-- new data handed back -/
def RetN (K : PySem.W.Frag) (d : PyData) (H : Hp) (Q : VK) : Prop := ∀ v H', Same H H' → Dp K (nw H H') v d → Q v H'
theorem RetF.go {v : V} {H H1 H' : Hp} {Q : VK} (q : RetF v H Q) (s : Same H H1) : RetF v H1 Q := fun H' s' => q H' (s.trans s')
theorem RetN.go {K : PySem.W.Frag} {d : PyData} {H H1 : Hp} {Q : VK} (q : RetN K d H Q) (s : Same H H1) : RetN K d H1 Q := fun v H' s' h => q v H' (s.trans s') (dp_up h (nw_nw (same_dm s)))

theorem sqL_of {K : PySem.W.Frag} {H H' : Hp} {D : Addr} {ns : List Int} (d : Dp K (nw H H') (.ref D) (.list (ns.map .int))) : SqL K H' D (ns.map V.int) := by
  obtain ⟨a, xs, e, h1, h2⟩ := dp_lst d
  cases e
  rw [dpAll_ints h2] at h1
  exact sqL_mono (ex_same _ _) h1
theorem sqL_ofB {K : PySem.W.Frag} {H H' : Hp} {D : Addr} {ns : List Bool} (d : Dp K (nw H H') (.ref D) (.list (ns.map .bool))) : SqL K H' D (ns.map V.bl) := by
  obtain ⟨a, xs, e, h1, h2⟩ := dp_lst d
  cases e
  rw [dpAll_bls h2] at h1
  exact sqL_mono (ex_same _ _) h1
theorem nw_new {K : PySem.W.Frag} {H H' : Hp} {D : Addr} {xs : List V} (h0 : H D = none) (h : H' D = some (.lst xs)) : SqL K (nw H H') D xs := SqL.of ((ex_out (dm_none h0)).trans h)
theorem nw_newT {K : PySem.W.Frag} {H H' : Hp} {D : Addr} {xs : List V} (h0 : H D = none) (h : H' D = some (.tup xs)) : SqT K (nw H H') D xs := SqT.of ((ex_out (dm_none h0)).trans h)

/-! ### comprehensions -/
section
variable {K : PySem.W.Frag} {J : It} {n : Nat} {G : Hp → Prop} {Y : Nat → Hp → V → Hp → Prop} {g : TG} {tt : TT} {te : TE} {vs : List Nat} {σ : L2.St} {H1 : Hp} {D : Addr} {Qd : Hp → Prop}
theorem lc_gen (w : Walk J n G Y) (S : As) (Inv : Hp → Prop) (R : Nat → List PyData → Prop) (hD : H1 D = none) (hn : n < sizeLine) (hS : Le S (dm H1)) (h0 : Inv H1) (hI : ∀ H o, Inv H → Inv (upd H D o)) (hR : R 0 [])
    (hG : ∀ H', Kp S H1 H' → G H')
    (hs : ∀ i x H H' es, i < n → Kp S H1 H → Inv H → R i es → Y i H x H' → ∀ (Q : VK) (Qn : Hp → Prop), (∀ y H'' e, Kp S H H'' → Inv H'' → Dp K (nw H H'') y e → R (i + 1) (es ++ [e]) → Q y H'') →
      (∀ H'', Kp S H H'' → Inv H'' → R (i + 1) es → Qn H'') → g x (wipe σ vs) H' fun σ2 H2 => wipe σ2 vs = wipe σ vs ∧ tt σ2 H2 fun b H3 => if b = true then te σ2 H3 Q else Qn H3)
    (hd : ∀ H' es, Kp S H1 H' → Inv H' → R n es → Dp K (nw H1 H') (.ref D) (.list es) → Qd H') :
    ∃ W : Nat → Nat → Hp → Prop, (∃ m, W 0 m (upd H1 D (.lst []))) ∧ ∀ i m H, W i m H →
      (J.stop i H ∧ Qd H) ∨ (J.go i H ∧ ∃ Nx : Hp → Prop, (∀ H', Nx H' → ∃ m', m' < m ∧ W (i + 1) m' H') ∧ ∀ x H', J.yld i H x H' → g x (wipe σ vs) H' fun σ2 H2 => wipe σ2 vs = wipe σ vs ∧ tt σ2 H2 fun b H3 =>
        if b = true then te σ2 H3 fun y H4 => ∃ acc, H4 D = some (.lst acc) ∧ acc.length < sizeLine ∧ Nx (upd H4 D (.lst (acc ++ [y]))) else Nx H3) := by
  have hSD : S D = false := by
    cases e : S D with
    | false => rfl
    | true => exact absurd (hS D e) (by rw [dm_none hD]; exact Bool.false_ne_true)
  have hU : Le S (uni (dm H1) (one D)) := hS.trans (le_uniL _ _)
  have kD : ∀ {H : Hp} {o : HO}, Kp S H1 H → Kp S H1 (upd H D o) := fun {H o} k => by
    refine ⟨fun a u e h => ?_, fun a u h => ?_⟩
    · rw [upd_ne (ne_of_none h hD)]; exact k.1 a u e h
    · obtain ⟨u', h'⟩ := k.2 a u h
      exact ⟨u', by rw [upd_ne (ne_of_none h hD)]; exact h'⟩
  refine lc_it w (fun i H => Kp S H1 H ∧ Inv H ∧ ∃ acc es, H D = some (.lst acc) ∧ es.length ≤ i ∧ DpAll K (ex (uni (dm H1) (one D)) H) acc es ∧ R i es) ?_ ?_ ?_ ?_
  · exact ⟨kD (Kp.refl _ _), hI _ _ h0, [], [], upd_same, Nat.le_refl _, .nil, hR⟩
  · rintro i H _ ⟨k, _⟩
    exact hG H k
  · rintro i x H H' hi ⟨k, hv, acc, es, ha, hl, hd, hr⟩ hy
    have hlen := dpa_len hd
    have go := hs i x H H' es hi k hv hr hy (fun y H4 => ∃ acc, H4 D = some (.lst acc) ∧ acc.length < sizeLine ∧ (Kp S H1 (upd H4 D (.lst (acc ++ [y]))) ∧ Inv (upd H4 D (.lst (acc ++ [y]))) ∧ ∃ acc' es, (upd H4 D (.lst (acc ++ [y]))) D = some (.lst acc') ∧ es.length ≤ i + 1 ∧ DpAll K (ex (uni (dm H1) (one D)) (upd H4 D (.lst (acc ++ [y])))) acc' es ∧ R (i + 1) es))
      (fun H3 => Kp S H1 H3 ∧ Inv H3 ∧ ∃ acc es, H3 D = some (.lst acc) ∧ es.length ≤ i + 1 ∧ DpAll K (ex (uni (dm H1) (one D)) H3) acc es ∧ R (i + 1) es) ?_ ?_
    · exact go
    · intro y H'' e k2 hv2 hde hr2
      have hle : Le (uni (dm H1) (one D)) (dm H) := le_uni k.dm (le_one (dm_some ha))
      refine ⟨acc, k2.1 D _ hSD ha, by omega, kD (k.trans k2), hI _ _ hv2, acc ++ [y], es ++ [e], upd_same, by rw [List.length_append]; exact Nat.add_le_add_right hl 1, ?_, hr2⟩
      rw [ex_upd (show uni (dm H1) (one D) D = true from le_uniR _ _ D (one_self D))]
      exact dpa_snoc (dpa_up hd (k2.mono hU).ex) (dp_up hde (nw_le hle))
    · intro H'' k2 hv2 hr2
      exact ⟨k.trans k2, hv2, acc, es, k2.1 D _ hSD ha, by omega, dpa_up hd (k2.mono hU).ex, hr2⟩
  · rintro H ⟨k, hv, acc, es, ha, hl, hdd, hr⟩
    exact hd H es k hv hr (.lst (nw_new hD ha) (dpa_up hdd (ex_le H (le_uniL _ _))))

/-- each item gives one, nothing is changed -/
theorem lc_map (w : Walk J n G Y) (es : List PyData) (hl : es.length = n) (hD : H1 D = none) (hn : n < sizeLine) (hG : ∀ H', Same H1 H' → G H')
    (hs : ∀ (i : Nat) (x : V) (e : PyData) (H H' : Hp), i < n → es[i]? = some e → Same H1 H → Y i H x H' → ∀ Q : VK, (∀ y H'', Same H H'' → Dp K (nw H H'') y e → Q y H'') → g x (wipe σ vs) H' fun σ2 H2 => wipe σ2 vs = wipe σ vs ∧ te σ2 H2 Q)
    (hd : ∀ H', Same H1 H' → Dp K (nw H1 H') (.ref D) (.list es) → Qd H') :
    ∃ W : Nat → Nat → Hp → Prop, (∃ m, W 0 m (upd H1 D (.lst []))) ∧ ∀ i m H, W i m H →
      (J.stop i H ∧ Qd H) ∨ (J.go i H ∧ ∃ Nx : Hp → Prop, (∀ H', Nx H' → ∃ m', m' < m ∧ W (i + 1) m' H') ∧ ∀ x H', J.yld i H x H' → g x (wipe σ vs) H' fun σ2 H2 => wipe σ2 vs = wipe σ vs ∧ tYes σ2 H2 fun b H3 =>
        if b = true then te σ2 H3 fun y H4 => ∃ acc, H4 D = some (.lst acc) ∧ acc.length < sizeLine ∧ Nx (upd H4 D (.lst (acc ++ [y]))) else Nx H3) := by
  refine lc_gen (K := K) w S0 (fun _ => True) (fun i l => l = es.take i) hD hn (le_S0 _) trivial (fun _ _ _ => trivial) (by simp) (fun H' k => hG H' k.same) ?_ ?_
  · intro i x H H' l hi k _ hr hy Q Qn hq _
    have he : es[i]? = some es[i] := List.getElem?_eq_getElem (by omega)
    exact hs i x es[i] H H' hi he k.same hy Q fun y H'' s d => hq y H'' es[i] (.of s) trivial d (by rw [hr, List.take_add_one, he]; rfl)
  · intro H' l k _ hr d
    rw [hr, List.take_of_length_le (by omega)] at d
    exact hd H' k.same d
end
section
variable {K : PySem.W.Frag} {g : TG} {te : TE} {vs : List Nat} {σ : L2.St} {H1 : Hp} {D : Addr} {Qd : Hp → Prop}
theorem lcT_map {a : Addr} {xs : List V} (hx : SqT K H1 a xs) (es : List PyData) (hl : es.length = xs.length) (hD : H1 D = none) (hn : xs.length < sizeLine)
    (hs : ∀ (i : Nat) (x : V) (e : PyData) (H : Hp), xs[i]? = some x → es[i]? = some e → Same H1 H → ∀ Q : VK, (∀ y H'', Same H H'' → Dp K (nw H H'') y e → Q y H'') → g x (wipe σ vs) H fun σ2 H2 => wipe σ2 vs = wipe σ vs ∧ te σ2 H2 Q)
    (hd : ∀ H', Same H1 H' → Dp K (nw H1 H') (.ref D) (.list es) → Qd H') :
    ∃ W : Nat → Nat → Hp → Prop, (∃ m, W 0 m (upd H1 D (.lst []))) ∧ ∀ i m H, W i m H →
      ((Itt K a).stop i H ∧ Qd H) ∨ ((Itt K a).go i H ∧ ∃ Nx : Hp → Prop, (∀ H', Nx H' → ∃ m', m' < m ∧ W (i + 1) m' H') ∧ ∀ x H', (Itt K a).yld i H x H' → g x (wipe σ vs) H' fun σ2 H2 => wipe σ2 vs = wipe σ vs ∧ tYes σ2 H2 fun b H3 =>
        if b = true then te σ2 H3 fun y H4 => ∃ acc, H4 D = some (.lst acc) ∧ acc.length < sizeLine ∧ Nx (upd H4 D (.lst (acc ++ [y]))) else Nx H3) :=
  lc_map (K := K) (walk_tup (xs := xs)) es hl hD hn (fun H' s => sqT_mono s hx) (fun i x e H H' hi he s hy Q q => by
    obtain ⟨rfl, hxi⟩ := hy
    exact hs i x e H' hxi he s Q q) hd
theorem lcL_map {a : Addr} {xs : List V} (hx : SqL K H1 a xs) (es : List PyData) (hl : es.length = xs.length) (hD : H1 D = none) (hn : xs.length < sizeLine)
    (hs : ∀ (i : Nat) (x : V) (e : PyData) (H : Hp), xs[i]? = some x → es[i]? = some e → Same H1 H → ∀ Q : VK, (∀ y H'', Same H H'' → Dp K (nw H H'') y e → Q y H'') → g x (wipe σ vs) H fun σ2 H2 => wipe σ2 vs = wipe σ vs ∧ te σ2 H2 Q)
    (hd : ∀ H', Same H1 H' → Dp K (nw H1 H') (.ref D) (.list es) → Qd H') :
    ∃ W : Nat → Nat → Hp → Prop, (∃ m, W 0 m (upd H1 D (.lst []))) ∧ ∀ i m H, W i m H →
      ((Itl K a).stop i H ∧ Qd H) ∨ ((Itl K a).go i H ∧ ∃ Nx : Hp → Prop, (∀ H', Nx H' → ∃ m', m' < m ∧ W (i + 1) m' H') ∧ ∀ x H', (Itl K a).yld i H x H' → g x (wipe σ vs) H' fun σ2 H2 => wipe σ2 vs = wipe σ vs ∧ tYes σ2 H2 fun b H3 =>
        if b = true then te σ2 H3 fun y H4 => ∃ acc, H4 D = some (.lst acc) ∧ acc.length < sizeLine ∧ Nx (upd H4 D (.lst (acc ++ [y]))) else Nx H3) :=
  lc_map (K := K) (walk_list (xs := xs)) es hl hD hn (fun H' s => sqL_mono s hx) (fun i x e H H' hi he s hy Q q => by
    obtain ⟨rfl, hxi⟩ := hy
    exact hs i x e H' hxi he s Q q) hd
end
end Tk
namespace Tk
open PySem PySem.Spec PyProof.Rows L2
open SX (S)
/-! ### small data taken apart -/
theorem dpA2 {K : PySem.W.Frag} {H : Hp} {xs : List V} {d e : PyData} (h : DpAll K H xs [d, e]) : ∃ u v, xs = [u, v] ∧ Dp K H u d ∧ Dp K H v e := by
  cases h with
  | cons h1 t =>
    cases t with
    | cons h2 t2 => cases t2; exact ⟨_, _, rfl, h1, h2⟩
theorem dp_pair {K : PySem.W.Frag} {H : Hp} {x : V} {d e : PyData} (h : Dp K H x (.tuple [d, e])) : ∃ a u v, x = .ref a ∧ SqT K H a [u, v] ∧ Dp K H u d ∧ Dp K H v e := by
  obtain ⟨a, xs, rfl, hs, hd⟩ := dp_tup h
  obtain ⟨u, v, rfl, h1, h2⟩ := dpA2 hd
  exact ⟨a, u, v, rfl, hs, h1, h2⟩
theorem dp_seqN {K : PySem.W.Frag} {H : Hp} {x : V} {ns : List Nat} (h : Dp K H x (tN ns)) : ∃ a xs, x = .ref a ∧ SqT K H a xs ∧ xs = ns.map (fun (n : Nat) => V.int (n : Int)) := by
  obtain ⟨a, xs, rfl, hs, hd⟩ := dp_tup h
  refine ⟨a, xs, rfl, hs, ?_⟩
  have e : (ns.map fun (n : Nat) => PyData.int (n : Int)) = (ns.map fun (n : Nat) => (n : Int)).map PyData.int := by rw [List.map_map]; rfl
  rw [e] at hd
  rw [dpAll_ints hd, List.map_map]
  rfl
theorem map_at {α β : Type} {f : α → β} {l : List α} {i : Nat} {y : β} (h : (l.map f)[i]? = some y) : ∃ x, l[i]? = some x ∧ y = f x := by
  rw [List.getElem?_map] at h
  cases e : l[i]? with
  | none => rw [e] at h; cases h
  | some x => rw [e] at h; exact ⟨x, rfl, (Option.some.inj h).symm⟩
theorem dp_seqS {K : PySem.W.Frag} {H : Hp} {x : V} {ts : List (List Nat)} (h : Dp K H x (.tuple (ts.map fun l => .str (S l)))) : ∃ a, x = .ref a ∧ SqT K H a (ts.map fun l => V.str (S l)) := by
  obtain ⟨a, xs, rfl, hs, hd⟩ := dp_tup h
  refine ⟨a, rfl, ?_⟩
  have e : (ts.map fun l => PyData.str (S l)) = (ts.map S).map PyData.str := by rw [List.map_map]; rfl
  rw [e] at hd
  rw [dpAll_strs hd, List.map_map] at hs
  exact hs
theorem dp_seqLS {K : PySem.W.Frag} {H : Hp} {x : V} {ts : List (List Nat)} (h : Dp K H x (.list (ts.map fun l => .str (S l)))) : ∃ a, x = .ref a ∧ SqL K H a (ts.map fun l => V.str (S l)) := by
  obtain ⟨a, xs, rfl, hs, hd⟩ := dp_lst h
  refine ⟨a, rfl, ?_⟩
  have e : (ts.map fun l => PyData.str (S l)) = (ts.map S).map PyData.str := by rw [List.map_map]; rfl
  rw [e] at hd
  rw [dpAll_strs hd, List.map_map] at hs
  exact hs
theorem S_at {l : List Nat} {i c : Nat} (h : (S l).cps[i]? = some c) : l[i]? = some c := by simpa [S] using h
theorem S_size (l : List Nat) : (S l).cps.size = l.length := by simp [S]
theorem lt_line {n : Nat} (h : n ≤ 100000) : n < sizeLine := Nat.lt_of_le_of_lt h (by rw [sizeLine_eq]; decide)
theorem le_line {n : Nat} (h : n ≤ 100000) : n ≤ sizeLine := Nat.le_of_lt (lt_line h)
theorem take_at {α : Type} {l : List α} {i : Nat} {x : α} (h : l[i]? = some x) : l.take (i + 1) = l.take i ++ [x] := by rw [List.take_add_one, h]; rfl
theorem at_lt {α : Type} {l : List α} {i : Nat} {x : α} (h : l[i]? = some x) : i < l.length := (List.getElem?_eq_some_iff.mp h).1

/-! ### texts: lists of codes -/
abbrev Tx := List Nat
def smL : List Nat := ("abcdefghijklmnopqrstuvwxyz" : Str).cps.toList
def grL : List Nat := ("ABCDEFGHIJKLMNOPQRSTUVWXYZ" : Str).cps.toList
def fgL : List Nat := ("0123456789" : Str).cps.toList
def isW (c : Nat) : Bool := decide (c ∈ smL) || (decide (c ∈ grL) || decide (c ∈ fgL))
/-- one sign more: the runs so far, the run at hand -/
def wst (p : List Tx × Tx) (c : Nat) : List Tx × Tx := if isW c = true then (p.1, p.2 ++ [c]) else if p.2 = [] then p else (p.1 ++ [p.2], [])
def wend (p : List Tx × Tx) : List Tx := if p.2 = [] then p.1 else p.1 ++ [p.2]
def wrds (l : Tx) : List Tx := wend (l.foldl wst ([], []))
def cors (l : Tx) : List Tx := (wrds l).map fun w => w.map PyProof.Rows.lo1
def sizT (l : Tx) : Nat := (l.filter fun c => !decide (c ∈ [32, 10])).length
/-- a text of ours -/
def okT (l : Tx) : Prop := l.length ≤ 1000 ∧ ∀ c ∈ l, c < 128
def sD (l : Tx) : PyData := .str (S l)

/-! ### prices -/
structure Prc where
  ones : List Tx
  others : List Tx
  known : List (Tx × Tx)
  out : Int
  more : Int
  cross : Int
  stretch : Int
  anchor : Int
def sml (i : Int) : Prop := -1000001 < i ∧ i < 1000001
structure okP (P : Prc) : Prop where
  ones : ∀ t ∈ P.ones, okT t
  others : ∀ t ∈ P.others, okT t
  n1 : P.ones.length ≤ 30
  n2 : P.others.length ≤ 30
  kn : P.known.length ≤ 30
  kt : ∀ q ∈ P.known, okT q.1 ∧ okT q.2
  p1 : sml P.out
  p2 : sml P.more
  p3 : sml P.cross
  p4 : sml P.stretch
  p5 : sml P.anchor
def prsD (P : Prc) : PyData := .tuple [.int P.out, .int P.more, .int P.cross, .int P.stretch, .int P.anchor]
def knD (P : Prc) : PyData := .tuple (P.known.map fun q => .tuple [sD q.1, sD q.2])
def txsD (ts : List Tx) : PyData := .tuple (ts.map sD)
def stnd (ts : List Tx) (c : Tx) (ks : List Nat) : Bool := ks.any fun k => decide (c ∈ cors (ts.getD k []))
def hitN (P : Prc) (a b : List Nat) : Nat := (P.known.filter fun q => stnd P.ones q.1 a && stnd P.others q.2 b).length
def sizS (ts : List Tx) (ks : List Nat) : Int := (ks.map fun k => ((sizT (ts.getD k []) : Nat) : Int)).sum
def absI (i : Int) : Int := if i < 0 then -i else i
def maxI (i j : Int) : Int := if j > i then j else i
def lkC (P : Prc) (l : Lk) : Int := if l.1.length = 0 ∨ l.2.length = 0 then P.out else
  P.more * (maxI (l.1.length : Int) (l.2.length : Int) - 1) + P.stretch * absI (sizS P.ones l.1 - sizS P.others l.2) - P.anchor * (hitN P l.1 l.2 : Int)
def stC (P : Prc) (s : Stp) : Int := (s.map (lkC P)).sum + if s.length = 2 then P.cross else 0
/-- the places of a link, a step stand -/
def okL (P : Prc) (l : Lk) : Prop := l.1.length ≤ 3 ∧ l.2.length ≤ 3 ∧ (∀ k ∈ l.1, k < P.ones.length) ∧ (∀ k ∈ l.2, k < P.others.length)
def okS (P : Prc) (s : Stp) : Prop := s.length ≤ 2 ∧ ∀ l ∈ s, okL P l

/-! ### steps -/
def stpP (i j m n : Nat) : List Stp :=
  (if i < m then [[([i], [])]] else []) ++ (if j < n then [[([], [j])]] else []) ++
  SHP.flatMap (fun p => if i + p.1 ≤ m ∧ j + p.2 ≤ n then [[((List.range p.1).map (i + ·), (List.range p.2).map (j + ·))]] else []) ++
  (if i + 2 ≤ m ∧ j + 2 ≤ n then [[([i], [j + 1]), ([i + 1], [j])]] else [])
def endP (s : Stp) (i j : Nat) : Nat × Nat := (i + (s.map fun l => l.1.length).sum, j + (s.map fun l => l.2.length).sum)

/-! ### the promises: words -/
section

def sp_words_of (K : PySem.W.Frag) (C : Addr) : Sp := fun vs H Q _ => ∃ l : Tx, vs = [.str (S l)] ∧ okT l ∧ RetN K (txsD (wrds l)) H Q
def sp_cores_of (K : PySem.W.Frag) (C : Addr) : Sp := fun vs H Q _ => ∃ l : Tx, vs = [.str (S l)] ∧ okT l ∧ RetN K (txsD (cors l)) H Q
def sp_size_of (K : PySem.W.Frag) (C : Addr) : Sp := fun vs H Q _ => ∃ l : Tx, vs = [.str (S l)] ∧ okT l ∧ RetF (.int ((sizT l : Nat) : Int)) H Q
/-- a dict whose keys are these texts -/
def Noted (H : Hp) (d : Addr) (cs : List Tx) : Prop := ∃ kvs : List (Key × V), H d = some (.dK kvs) ∧ ∀ x : Tx, (valV kvs (Sum.inr (S x))).isSome = decide (x ∈ cs)
def sp_noted (K : PySem.W.Frag) (C : Addr) : Sp := fun vs H Q _ => ∃ (v : V) (cs : List Tx), vs = [v] ∧ Dp K H v (txsD cs) ∧ cs.length ≤ 2000 ∧ ∀ d H', Same H H' → H d = none → Noted H' d cs → Q (.ref d) H'
def sp_ends_at (K : PySem.W.Frag) (C : Addr) : Sp := fun vs H Q _ => ∃ (v : V) (st : Stp) (i j : Nat), vs = [v, .int (i : Int), .int (j : Int)] ∧ Dp K H v (stD st) ∧ st.length ≤ 2 ∧ RetN K (prD2 (endP st i j)) H Q
def sp_steps_from (K : PySem.W.Frag) (C : Addr) : Sp := fun vs H Q _ => ∃ (i j m n : Nat), vs = [.int (i : Int), .int (j : Int), .int (m : Int), .int (n : Int)] ∧ m ≤ 30 ∧ n ≤ 30 ∧ RetN K (.list ((stpP i j m n).map stD)) H Q
end
/-! ### the pricing object -/
theorem fk1 : ¬ (("sizes" : Str) = "cores") := by decide +kernel
theorem fk2 : ¬ (("sizes" : Str) = "known") := by decide +kernel
theorem fk3 : ¬ (("sizes" : Str) = "prices") := by decide +kernel
theorem fk4 : ¬ (("cores" : Str) = "known") := by decide +kernel
theorem fk5 : ¬ (("cores" : Str) = "prices") := by decide +kernel
theorem fk6 : ¬ (("known" : Str) = "prices") := by decide +kernel
def flds (a b : Addr) (w pr : V) : List (Str × V) := putF "prices" pr (putF "known" w (putF "cores" (.ref b) (putF "sizes" (.ref a) [])))
theorem flds_sizes (a b : Addr) (w pr : V) : (flds a b w pr).lookup ("sizes" : Str) = some (.ref a) := by
  unfold flds
  rw [lookup_putF, if_neg fk3, lookup_putF, if_neg fk2, lookup_putF, if_neg fk1, lookup_putF, if_pos rfl]
theorem flds_cores (a b : Addr) (w pr : V) : (flds a b w pr).lookup ("cores" : Str) = some (.ref b) := by
  unfold flds
  rw [lookup_putF, if_neg fk5, lookup_putF, if_neg fk4, lookup_putF, if_pos rfl]
theorem flds_known (a b : Addr) (w pr : V) : (flds a b w pr).lookup ("known" : Str) = some w := by
  unfold flds
  rw [lookup_putF, if_neg fk6, lookup_putF, if_pos rfl]
theorem flds_prices (a b : Addr) (w pr : V) : (flds a b w pr).lookup ("prices" : Str) = some pr := by
  unfold flds
  rw [lookup_putF, if_pos rfl]
theorem flds_no (a b : Addr) (w pr : V) {m : Str} (h1 : ¬ m = "prices") (h2 : ¬ m = "known") (h3 : ¬ m = "cores") (h4 : ¬ m = "sizes") : (flds a b w pr).lookup m = none := by
  unfold flds
  rw [lookup_putF, if_neg h1, lookup_putF, if_neg h2, lookup_putF, if_neg h3, lookup_putF, if_neg h4]
  rfl
theorem noted_mono {H H' : Hp} {d : Addr} {cs : List Tx} (s : Same H H') (h : Noted H d cs) : Noted H' d cs := by
  obtain ⟨kvs, h1, h2⟩ := h
  exact ⟨kvs, s _ _ h1, h2⟩
/-- a list of such dicts, one a text -/
def CorL (K : PySem.W.Frag) (H : Hp) (c : Addr) (ts : List Tx) : Prop := ∃ ds : List Addr, SqL K H c (ds.map V.ref) ∧ ds.length = ts.length ∧ ∀ (i : Nat) (d : Addr) (t : Tx), ds[i]? = some d → ts[i]? = some t → Noted H d (cors t)
theorem corL_mono {K : PySem.W.Frag} {H H' : Hp} {c : Addr} {ts : List Tx} (s : Same H H') (h : CorL K H c ts) : CorL K H' c ts := by
  obtain ⟨ds, h1, h2, h3⟩ := h
  exact ⟨ds, sqL_mono s h1, h2, fun i d t a b => noted_mono s (h3 i d t a b)⟩
def szL (ts : List Tx) : PyData := .list (ts.map fun t => .int ((sizT t : Nat) : Int))
def szD (P : Prc) : PyData := .tuple [szL P.ones, szL P.others]
def PrAt (K : PySem.W.Frag) (C : Addr) (H : Hp) (p : Addr) (P : Prc) : Prop := ∃ (dx a b c1 c2 : Addr) (w pr : V), H p = some (.ins C dx (flds a b w pr)) ∧ Dp K H (.ref a) (szD P) ∧ SqT K H b [.ref c1, .ref c2] ∧ CorL K H c1 P.ones ∧ CorL K H c2 P.others ∧
  Dp K H w (knD P) ∧ Dp K H pr (prsD P)
theorem prAt_mono {K : PySem.W.Frag} {C : Addr} {H H' : Hp} {p : Addr} {P : Prc} (s : Same H H') (h : PrAt K C H p P) : PrAt K C H' p P := by
  obtain ⟨dx, a, b, c1, c2, w, pr, h1, h2, h3, h4, h5, h6, h7⟩ := h
  exact ⟨dx, a, b, c1, c2, w, pr, s _ _ h1, dp_up h2 s, sqT_mono s h3, corL_mono s h4, corL_mono s h5, dp_up h6 s, dp_up h7 s⟩
/-- a side's texts -/
def side (P : Prc) (sd : Nat) : List Tx := if sd = 0 then P.ones else P.others
/-! ### the promises: prices -/
def sp_init (K : PySem.W.Frag) (C : Addr) : Sp := fun vs H Q _ => ∃ (p dx : Addr) (a b w pr : V) (P : Prc), vs = [.ref p, a, b, w, pr] ∧ H p = some (.ins C dx []) ∧ okP P ∧ Dp K H a (txsD P.ones) ∧ Dp K H b (txsD P.others) ∧ Dp K H w (knD P) ∧ Dp K H pr (prsD P) ∧
  ∀ H', Kp (one p) H H' → PrAt K C H' p P → Q .non H'
def sp_stands (K : PySem.W.Frag) (C : Addr) : Sp := fun vs H Q _ => ∃ (p : Addr) (c : Tx) (sd : Nat) (x : V) (P : Prc) (ks : List Nat), vs = [.ref p, .str (S c), .int (sd : Int), x] ∧ sd < 2 ∧ PrAt K C H p P ∧ Dp K H x (tN ks) ∧ ks.length ≤ 3 ∧
  (∀ k ∈ ks, k < (side P sd).length) ∧ RetF (.bl (stnd (side P sd) c ks)) H Q
def sp_hits_at (K : PySem.W.Frag) (C : Addr) : Sp := fun vs H Q _ => ∃ (p : Addr) (x y : V) (P : Prc) (l : Lk), vs = [.ref p, x, y] ∧ okP P ∧ PrAt K C H p P ∧ Dp K H x (tN l.1) ∧ Dp K H y (tN l.2) ∧ okL P l ∧ RetF (.int (hitN P l.1 l.2 : Int)) H Q
def sp_link_cost (K : PySem.W.Frag) (C : Addr) : Sp := fun vs H Q _ => ∃ (p : Addr) (x y : V) (P : Prc) (l : Lk), vs = [.ref p, x, y] ∧ okP P ∧ PrAt K C H p P ∧ Dp K H x (tN l.1) ∧ Dp K H y (tN l.2) ∧ okL P l ∧ RetF (.int (lkC P l)) H Q
def sp_step_cost (K : PySem.W.Frag) (C : Addr) : Sp := fun vs H Q _ => ∃ (p : Addr) (x : V) (P : Prc) (s : Stp), vs = [.ref p, x] ∧ okP P ∧ PrAt K C H p P ∧ Dp K H x (stD s) ∧ okS P s ∧ RetF (.int (stC P s)) H Q
theorem dp_newStrs {K : PySem.W.Frag} {H H2 : Hp} {z : Addr} (ts : List Tx) (s : Same H H2) (hz : H2 z = none) : Dp K (nw H (upd H2 z (.tup (ts.map fun l => V.str (S l))))) (.ref z) (txsD ts) := by
  have e : (ts.map sD) = (ts.map S).map PyData.str := by rw [List.map_map]; rfl
  have e2 : (ts.map fun l => V.str (S l)) = (ts.map S).map V.str := by rw [List.map_map]; rfl
  unfold txsD
  rw [e, e2]
  exact .tup (nw_newT (s.free hz) upd_same) (strs_dp _)
end Tk
namespace Tk
open PySem PySem.Spec PyProof.Rows L2
open SX (S)

section
variable {P : Program} {w : World} {K : PySem.W.Frag} {mg : Str → Option Value} {base : Heap} {C SH : Addr}

theorem sc_words_of : FnScope ["text", "runs", "run", "sign"] ["text"] (defScope (topS 5)) := ⟨rfl, rfl, rfl, by decide +kernel, rfl, by decide +kernel, by decide +kernel⟩
theorem bn_words_of : Bnd "words_of" "words_of" (topS 5) ["text"] := fun _ _ _ _ _ _ us hl => match us, hl with | [_], _ => rfl
theorem gl_small : (("abcdefghijklmnopqrstuvwxyz" : Str)).cps.toList = smL := rfl
theorem gl_great : (("ABCDEFGHIJKLMNOPQRSTUVWXYZ" : Str)).cps.toList = grL := rfl
theorem gl_figs : (("0123456789" : Str)).cps.toList = fgL := rfl
theorem S_nil : (Str.ofString "") = S [] := by decide +kernel
theorem S_snoc (l : List Nat) (c : Nat) : S l ++ ⟨#[c]⟩ = S (l ++ [c]) := SX.S_cat l [c]
theorem S_ne_nil {l : List Nat} : (V.str (S l) = V.str (S [])) ↔ l = [] := by
  constructor
  · intro h
    injection h with h
    exact SX.S_inj h
  · intro h; rw [h]
theorem or3_go {σ : L2.St} {H : Hp} {a b c : Bool} {ta tb tc : TT} {Q : Bool → Hp → Prop} (ha : ∀ Q : Bool → Hp → Prop, Q a H → ta σ H Q) (hb : ∀ Q : Bool → Hp → Prop, Q b H → tb σ H Q) (hc : ∀ Q : Bool → Hp → Prop, Q c H → tc σ H Q)
    (h : Q (a || (b || c)) H) : tOr ta (tOr tb tc) σ H Q := by
  refine ha _ ?_
  cases a
  · refine iteF (hb _ ?_)
    cases b
    · exact iteF (hc _ h)
    · exact iteT h
  · exact iteT h
theorem wst_len (l : Tx) : ∀ (p : List Tx × Tx) (n : Nat), p.1.length ≤ n → (l.foldl wst p).1.length ≤ n + l.length := by
  induction l with
  | nil => intro p n h; exact h
  | cons c l ih =>
    intro p n h
    rw [List.foldl_cons, List.length_cons]
    have : (wst p c).1.length ≤ n + 1 := by
      unfold wst
      split
      · exact Nat.le_succ_of_le h
      · split
        · exact Nat.le_succ_of_le h
        · rw [List.length_append]; exact Nat.add_le_add_right h 1
    have := ih (wst p c) (n + 1) this
    omega
theorem wst_run (l : Tx) : ∀ (p : List Tx × Tx) (n : Nat), p.2.length ≤ n → (l.foldl wst p).2.length ≤ n + l.length := by
  induction l with
  | nil => intro p n h; exact h
  | cons c l ih =>
    intro p n h
    rw [List.foldl_cons, List.length_cons]
    have : (wst p c).2.length ≤ n + 1 := by
      unfold wst
      split
      · rw [List.length_append]; exact Nat.add_le_add_right h 1
      · split
        · exact Nat.le_succ_of_le h
        · exact Nat.zero_le _
    have := ih (wst p c) (n + 1) this
    omega
def strsV (ts : List Tx) : List V := ts.map fun l => V.str (S l)
theorem c_words_of (T : Txt K mg C SH) : C8.Cal P w K mg base 1 "words_of" (sp_words_of K C) [] := by
  refine calD T.d_words_of bn_words_of sc_words_of (fun vs H Q E h => by obtain ⟨_, rfl, _⟩ := h; rfl) (fun f cdv A outer s H vs Q E hr h => ?_)
  refine ⟨_, (pss_cons (ps_set (i := 1) sc_words_of.nd rfl (Or.inl rfl) (pe_lst pa_nil))
    (pss_cons (ps_set (i := 2) sc_words_of.nd rfl (Or.inl rfl) pe_str)
    (pss_cons (ps_for PassesOwn.never rfl (pi_str (pv 0)) (pg_name (i := 3) sc_words_of.nd rfl (Or.inl rfl))
      (pss_one (ps_if (PW.pt (pw_or (pt_cmpR op_in_sign (pv 3) (C8.pe_gc (by rfl) T.gSMALL) rfl) (pw_or (pt_cmpR op_in_sign (pv 3) (C8.pe_gc (by rfl) T.gGREAT) rfl) (pw_or1 (pt_cmpR op_in_sign (pv 3) (C8.pe_gc (by rfl) T.gFIGURES) rfl))))) (pss_one (ps_set (i := 2) sc_words_of.nd rfl (Or.inl rfl) (pe_op op_add_str (pv 2) (pv 3)))) (pss_one (ps_if (pt_cmpR op_ne (pv 2) pe_str (nomark _)) (pss_cons (ps_expr (pe_bm PySem.F.plainAttrs_list PySem.F.slot_list_append PySem.F.type_list_append mt_append (pv 1) (pa_cons (pv 2) pa_nil)))
          (pss_one (ps_set (i := 2) sc_words_of.nd rfl (Or.inl rfl) pe_str))) pss_nil)))))
    (pss_cons (ps_if (pt_cmpR op_ne (pv 2) pe_str (nomark _)) (pss_one (ps_expr (pe_bm PySem.F.plainAttrs_list PySem.F.slot_list_append PySem.F.type_list_append mt_append (pv 1) (pa_cons (pv 2) pa_nil)))) pss_nil)
    (pss_one (ps_ret (pe_tupleOfK K rfl (by rfl) T.tuple (pv 1)))))))), ?_⟩
  obtain ⟨l, rfl, ⟨hl, hc⟩, q⟩ := h
  refine ⟨Nat.zero_le _, fun o no => ?_⟩
  refine ⟨.str (S l), rfl, S l, rfl, for_it (walk_str (z := S l)) (fun i σ H' => ∃ y, σ = [some (.str (S l)), some (.ref o), some (.str (S ((l.take i).foldl wst ([], [])).2)), y] ∧ Same H H' ∧ H' o = some (.lst (strsV ((l.take i).foldl wst ([], [])).1)))
    ⟨none, by rw [S_nil]; rfl, same_new no, upd_same⟩ (fun _ _ _ _ _ => trivial) ?_ ?_⟩
  · rintro i x σ H1 H' hi ⟨y, rfl, s, ho⟩ ⟨rfl, c, hci, rfl⟩
    have hli := S_at hci
    have hil := at_lt hli
    have e1 : (l.take (i + 1)).foldl wst ([], []) = wst ((l.take i).foldl wst ([], [])) c := by rw [take_at hli, List.foldl_append]; rfl
    have l1 := wst_len (l.take i) ([], []) 0 (Nat.le_refl _)
    have l2 := wst_run (l.take i) ([], []) 0 (Nat.le_refl _)
    rw [List.length_take] at l1 l2
    rw [e1]
    generalize (l.take i).foldl wst ([], []) = p at l1 l2 ho ⊢
    refine or3_go (fun Q q => ⟨_, rfl, c, _, rfl, rfl, _, rfl, q⟩) (fun Q q => ⟨_, rfl, c, _, rfl, rfl, _, rfl, q⟩) (fun Q q => ⟨_, rfl, c, _, rfl, rfl, _, rfl, q⟩) ?_
    show if isW c = true then _ else _
    unfold wst
    cases hw : isW c with
    | true =>
      refine iteT ⟨_, rfl, _, rfl, _, _, rfl, rfl, ?_, some (.str ⟨#[c]⟩), ?_, s, ?_⟩
      · show (S p.2).length + 1 ≤ sizeLine
        rw [SX.S_len]
        exact le_line (by omega)
      · rw [S_snoc]; rfl
      · exact ho
    | false =>
      refine iteF ⟨_, rfl, rfl, _, rfl, ?_⟩
      rw [S_nil]
      by_cases hp : p.2 = []
      · rw [decide_eq_true (S_ne_nil.mpr hp), if_pos hp]
        exact iteF ⟨some (.str ⟨#[c]⟩), rfl, s, ho⟩
      · rw [decide_eq_false (fun z => hp (S_ne_nil.mp z)), if_neg hp]
        refine iteT ⟨_, rfl, .inl ⟨rfl, _, SqL.of ho⟩, _, rfl, o, _, _, rfl, rfl, ho, ?_, some (.str ⟨#[c]⟩), ?_, ?_, ?_⟩
        · unfold strsV
          rw [List.length_map]
          exact lt_line (by omega)
        · rfl
        · intro a u e
          rw [upd_ne (ne_of_none e no)]
          exact s a u e
        · rw [upd_same]
          unfold strsV
          rw [if_neg Bool.false_ne_true, List.map_append]
          rfl
  · rintro σ H' ⟨y, rfl, s, ho⟩
    rw [S_size, List.take_length] at *
    have l1 := wst_len l ([], []) 0 (Nat.le_refl _)
    have hw : wrds l = wend (l.foldl wst ([], [])) := rfl
    rw [hw] at q
    generalize l.foldl wst ([], []) = p at l1 ho q ⊢
    have fin : ∀ (H2 : Hp) (ts : List Tx), Same H H2 → H2 o = some (.lst (strsV ts)) → (∀ v H', Same H H' → Dp K (nw H H') v (txsD ts) → Q v H') → ∀ z, H2 z = none → Q (.ref z) (upd H2 z (.tup (strsV ts))) := by
      intro H2 ts s2 h2 q2 z hz
      refine q2 _ _ (s2.trans (same_new hz)) ?_
      have e : (ts.map sD) = (ts.map S).map PyData.str := by rw [List.map_map]; rfl
      have e2 : strsV ts = (ts.map S).map V.str := by unfold strsV; rw [List.map_map]; rfl
      unfold txsD
      rw [e, e2]
      exact .tup (nw_newT (s2.free hz) upd_same) (strs_dp _)
    unfold wend at q
    refine ⟨_, rfl, rfl, _, rfl, ?_⟩
    rw [S_nil]
    by_cases hp : p.2 = []
    · rw [decide_eq_true (S_ne_nil.mpr hp)]
      rw [if_pos hp] at q
      exact iteF ⟨_, rfl, .inl ⟨o, _, rfl, SqL.of ho, fin H' p.1 s ho q⟩⟩
    · rw [decide_eq_false (fun z => hp (S_ne_nil.mp z))]
      rw [if_neg hp] at q
      refine iteT ⟨_, rfl, .inl ⟨rfl, _, SqL.of ho⟩, _, rfl, o, _, _, rfl, rfl, ho, ?_, ?_⟩
      · unfold strsV
        rw [List.length_map]
        exact lt_line (by omega)
      · have e : strsV p.1 ++ [V.str (S p.2)] = strsV (p.1 ++ [p.2]) := by unfold strsV; rw [List.map_append]; rfl
        rw [e]
        refine ⟨_, rfl, .inl ⟨o, _, rfl, SqL.of upd_same, fin _ (p.1 ++ [p.2]) ?_ upd_same q⟩⟩
        intro a u e
        rw [upd_ne (ne_of_none e no)]
        exact s a u e
end
end Tk
namespace Tk
open PySem PySem.Spec PyProof.Rows L2
open SX (S)

section
variable {P : Program} {w : World} {K : PySem.W.Frag} {mg : Str → Option Value} {base : Heap} {C SH : Addr}

theorem sc_size_of : FnScope ["text", "sign"] ["text"] (defScope (topS 7)) := ⟨rfl, rfl, rfl, by decide +kernel, rfl, by decide +kernel, by decide +kernel⟩
theorem bn_size_of : Bnd "size_of" "size_of" (topS 7) ["text"] := fun _ _ _ _ _ _ us hl => match us, hl with | [_], _ => rfl
theorem blk_codes : ((" \n" : Str)).cps.toList = [32, 10] := by decide +kernel
theorem c_size_of (T : Txt K mg C SH) : C8.Cal P w K mg base 1 "size_of" (sp_size_of K C) [] := by
  refine calD T.d_size_of bn_size_of sc_size_of (fun vs H Q E h => by obtain ⟨_, rfl, _⟩ := h; rfl) (fun f cdv A outer s H vs Q E hr h => ?_)
  refine ⟨_, (pss_one (ps_ret (pe_callB (call_lenK K rfl) (by rfl) T.len (by decide +kernel) (pa_cons (pe_lc (own := [("sign", 1)]) rfl sc_size_of.nd (pi_str (pv 0)) (blkOk_by (N := ["text", "sign"]) (sc := defScope (topS 7)) (by decide +kernel)) (fun _ _ _ _ _ => by exact (pg_name (i := 1) sc_size_of.nd rfl (Or.inl rfl))) (fun _ _ _ _ _ => by exact (pts_one (pt_cmpR op_notIn_sign (pv 1) (C8.pe_gc (by rfl) T.gBLANKS) rfl))) (fun _ _ _ _ _ => by exact (pv 1))) pa_nil)))), ?_⟩
  obtain ⟨l, rfl, ⟨hl, hc⟩, q⟩ := h
  have hsz := S_size l
  refine ⟨.str (S l), rfl, S l, rfl, fun D hD => lc_gen (K := K) (walk_str (z := S l)) S0 (fun _ => True) (fun i es => es = ((l.take i).filter fun c => !decide (c ∈ [32, 10])).map fun c => sD [c]) hD (lt_line (by omega)) (le_S0 _) trivial (fun _ _ _ => trivial) rfl (fun _ _ => trivial) ?_ ?_⟩
  · rintro i x H1 H' es hi k _ hr ⟨rfl, c, hci, rfl⟩ Q' Qn hq hqn
    have hli := S_at hci
    refine ⟨rfl, _, rfl, c, _, rfl, rfl, _, rfl, ?_⟩
    rw [blk_codes]
    by_cases hb : c ∈ [32, 10]
    · have e : (!decide (c ∈ [32, 10])) = false := by rw [decide_eq_true hb]; rfl
      rw [e]
      refine hqn _ (Kp.refl _ _) trivial ?_
      rw [take_at hli, List.filter_append, hr, List.filter_cons, e]
      simp
    · have e : (!decide (c ∈ [32, 10])) = true := by rw [decide_eq_false hb]; rfl
      rw [e]
      refine ⟨_, rfl, hq _ _ (sD [c]) (Kp.refl _ _) trivial (.str _) ?_⟩
      rw [take_at hli, List.filter_append, hr, List.filter_cons, e]
      simp
  · intro H' es k _ hr d
    rw [hsz, List.take_length] at hr
    obtain ⟨a, xs, e, hs, hx⟩ := dp_lst d
    cases e
    have hln : xs.length = sizT l := by rw [dpa_len hx, hr, List.length_map]; rfl
    refine ⟨D, xs, rfl, .inl (sqL_mono (ex_same _ _) hs), ?_⟩
    rw [hln]
    exact q H' k.same
end
end Tk
namespace Tk
open PySem PySem.Spec PyProof.Rows L2
open SX (S)

section
variable {P : Program} {w : World} {K : PySem.W.Frag} {mg : Str → Option Value} {base : Heap} {C SH : Addr}

theorem sc_noted : FnScope ["cores", "known", "core"] ["cores"] (defScope (topS 9)) := ⟨rfl, rfl, rfl, by decide +kernel, rfl, by decide +kernel, by decide +kernel⟩
theorem bn_noted : Bnd "noted" "noted" (topS 9) ["cores"] := fun _ _ _ _ _ _ us hl => match us, hl with | [_], _ => rfl
theorem putK_len1 (c : List (Key × V)) (k : Key) (x : V) : (putK c k x).length ≤ c.length + 1 := by
  unfold putK
  split
  · rw [List.length_map]; exact Nat.le_succ _
  · rw [List.length_append]; exact Nat.le_refl _
theorem c_noted (T : Txt K mg C SH) : C8.Cal P w K mg base 1 "noted" (sp_noted K C) [] := by
  refine calD T.d_noted bn_noted sc_noted (fun vs H Q E h => by obtain ⟨_, _, rfl, _⟩ := h; rfl) (fun f cdv A outer s H vs Q E hr h => ?_)
  refine ⟨_, (pss_cons (ps_set (i := 1) sc_noted.nd rfl (Or.inl rfl) pe_dnewK)
    (pss_cons (ps_for PassesOwn.never rfl (pi_tupK K rfl (pv 0)) (pg_name (i := 2) sc_noted.nd rfl (Or.inl rfl))
      (pss_one (ps_dput (hu_of hr) (pv 1) (pv 2) pe_bl rfl)))
    (pss_one (ps_ret (pv 1))))), ?_⟩
  obtain ⟨v, cs, rfl, hd, hl, q⟩ := h
  obtain ⟨a, rfl, hs⟩ := dp_seqS hd
  intro d nd
  refine ⟨_, rfl, a, rfl, ⟨_, sqT_mono (same_new nd) hs⟩, for_tup (K := K) (a := a) (xs := cs.map fun l => V.str (S l)) (fun i σ H' => ∃ y kvs, σ = [some (.ref a), some (.ref d), y] ∧ Same H H' ∧ H' d = some (.dK kvs) ∧ kvs.length ≤ i ∧ ∀ x : Tx, (valV kvs (Sum.inr (S x))).isSome = decide (x ∈ cs.take i))
    ⟨none, [], rfl, same_new nd, upd_same, Nat.le_refl _, fun x => by simp [valV_nil]⟩ (fun i σ H' _ ⟨_, _, _, s, _⟩ => sqT_mono s hs) ?_ ?_⟩
  · rintro i x σ H' hx ⟨y, kvs, rfl, s, hk, hlk, hv⟩
    obtain ⟨c, hc, rfl⟩ := map_at hx
    have hil := at_lt hc
    refine ⟨_, rfl, _, rfl, d, _, rfl, DPut.k (k := Sum.inr (S c)) hk (lt_line (by omega)), ?_⟩
    refine ⟨some (.str (S c)), _, rfl, fun b o e => ?_, upd_same, ?_, fun x => ?_⟩
    · rw [upd_ne (ne_of_none e nd)]; exact s b o e
    · have := putK_len1 kvs (Sum.inr (S c)) (V.bl true)
      omega
    · rw [valV_put, take_at hc]
      by_cases e : x = c
      · rw [e, if_pos rfl]; simp
      · rw [if_neg (fun z => e (SX.S_inj (Sum.inr.inj z))), hv x]
        simp [e]
  · rintro σ H' ⟨y, kvs, rfl, s, hk, hlk, hv⟩
    refine ⟨_, rfl, q d H' s nd ⟨kvs, hk, fun x => ?_⟩⟩
    rw [hv x, List.length_map, List.take_length]
end
end Tk
namespace Tk
open PySem PySem.Spec PyProof.Rows L2
open SX (S)

section
variable {P : Program} {w : World} {K : PySem.W.Frag} {mg : Str → Option Value} {base : Heap} {C SH : Addr}

theorem sc_cores_of : FnScope ["text", "word"] ["text"] (defScope (topS 6)) := ⟨rfl, rfl, rfl, by decide +kernel, rfl, by decide +kernel, by decide +kernel⟩
theorem bn_cores_of : Bnd "cores_of" "cores_of" (topS 6) ["text"] := fun _ _ _ _ _ _ us hl => match us, hl with | [_], _ => rfl
theorem wst_mem (l : Tx) (Pc : Nat → Prop) (h : ∀ c ∈ l, Pc c) : ∀ (p : List Tx × Tx), (∀ w ∈ p.1, ∀ c ∈ w, Pc c) → (∀ c ∈ p.2, Pc c) → (∀ w ∈ (l.foldl wst p).1, ∀ c ∈ w, Pc c) ∧ ∀ c ∈ (l.foldl wst p).2, Pc c := by
  induction l with
  | nil => intro p h1 h2; exact ⟨h1, h2⟩
  | cons c l ih =>
    intro p h1 h2
    rw [List.foldl_cons]
    have hc : Pc c := h c (List.mem_cons_self ..)
    have := ih (fun d hd => h d (List.mem_cons_of_mem _ hd)) (wst p c)
    apply this
    · unfold wst
      split
      · exact h1
      · split
        · exact h1
        · intro w hw
          rcases List.mem_append.mp hw with hw | hw
          · exact h1 w hw
          · rw [List.mem_singleton.mp hw]; exact h2
    · unfold wst
      split
      · intro d hd
        rcases List.mem_append.mp hd with hd | hd
        · exact h2 d hd
        · rw [List.mem_singleton.mp hd]; exact hc
      · split
        · exact h2
        · intro d hd; exact absurd hd (List.not_mem_nil)
theorem wst_lens (l : Tx) : ∀ (p : List Tx × Tx) (n : Nat), (∀ w ∈ p.1, w.length ≤ n) → p.2.length ≤ n → ∀ w ∈ (l.foldl wst p).1, w.length ≤ n + l.length := by
  induction l with
  | nil => intro p n h1 h2; exact h1
  | cons c l ih =>
    intro p n h1 h2
    rw [List.foldl_cons, List.length_cons]
    intro w hw
    have := ih (wst p c) (n + 1) ?_ ?_ w hw
    · omega
    · unfold wst
      split
      · exact fun w hw => Nat.le_succ_of_le (h1 w hw)
      · split
        · exact fun w hw => Nat.le_succ_of_le (h1 w hw)
        · intro w hw
          rcases List.mem_append.mp hw with hw | hw
          · exact Nat.le_succ_of_le (h1 w hw)
          · rw [List.mem_singleton.mp hw]; exact Nat.le_succ_of_le h2
    · unfold wst
      split
      · rw [List.length_append]; exact Nat.add_le_add_right h2 1
      · split
        · exact Nat.le_succ_of_le h2
        · exact Nat.zero_le _
theorem wrds_mem {l : Tx} {Pc : Nat → Prop} (h : ∀ c ∈ l, Pc c) : ∀ w ∈ wrds l, ∀ c ∈ w, Pc c := by
  have := wst_mem l Pc h ([], []) (fun w hw => absurd hw List.not_mem_nil) (fun w hw => absurd hw List.not_mem_nil)
  unfold wrds wend
  split
  · exact this.1
  · intro w hw
    rcases List.mem_append.mp hw with hw | hw
    · exact this.1 w hw
    · rw [List.mem_singleton.mp hw]; exact this.2
theorem wrds_lens (l : Tx) : ∀ w ∈ wrds l, w.length ≤ l.length := by
  have h1 := wst_lens l ([], []) 0 (fun w hw => absurd hw List.not_mem_nil) (Nat.le_refl _)
  have h2 := wst_run l ([], []) 0 (Nat.le_refl _)
  unfold wrds wend
  split
  · intro w hw; have := h1 w hw; omega
  · intro w hw
    rcases List.mem_append.mp hw with hw | hw
    · have := h1 w hw; omega
    · rw [List.mem_singleton.mp hw]; omega
theorem wrds_len (l : Tx) : (wrds l).length ≤ l.length + 1 := by
  have h1 := wst_len l ([], []) 0 (Nat.le_refl _)
  unfold wrds wend
  split
  · omega
  · rw [List.length_append]
    have : [(l.foldl wst ([], [])).2].length = 1 := rfl
    omega
theorem all128 {l : Tx} (h : ∀ c ∈ l, c < 128) : l.all (· < 128) = true := List.all_eq_true.mpr fun c hc => decide_eq_true (h c hc)
theorem c_cores_of (T : Txt K mg C SH) : C8.Cal P w K mg base 2 "cores_of" (sp_cores_of K C) [] := by
  have c_words_of : C8.Cal P w K mg base 1 "words_of" (sp_words_of K C) [] := Tk.c_words_of T
  refine calD T.d_cores_of bn_cores_of sc_cores_of (fun vs H Q E h => by obtain ⟨_, rfl, _⟩ := h; rfl) (fun f cdv A outer s H vs Q E hr h => ?_)
  refine ⟨_, (pss_one (ps_ret (pe_tupleOfK K rfl (by rfl) T.tuple (pe_lc (own := [("word", 1)]) (tt := tYes) rfl sc_cores_of.nd (pi_tupK K rfl (C8.pe_c c_words_of hr (by decide) (by rfl) (pa_cons (pv 0) pa_nil))) (blkOk_by (N := ["text", "word"]) (sc := defScope (topS 6)) (by decide +kernel)) (fun _ _ _ _ _ => by exact (pg_name (i := 1) sc_cores_of.nd rfl (Or.inl rfl))) (fun _ _ _ _ _ => by exact pts_nil) (fun _ _ _ _ _ => by exact (pe_lower (pv 1))))))), ?_⟩
  obtain ⟨l, rfl, ⟨hl, hc⟩, q⟩ := h
  refine ⟨_, rfl, l, rfl, ⟨hl, hc⟩, fun v H1 s1 d1 => ?_⟩
  obtain ⟨a, rfl, hs⟩ := dp_seqS d1
  have hs1 := sqT_mono (ex_same _ _) hs
  have hwl := wrds_len l
  refine ⟨a, rfl, ⟨_, hs1⟩, fun D hD => lcT_map (K := K) hs1 ((cors l).map sD) ?_ hD ?_ ?_ ?_⟩
  · unfold cors; simp
  · rw [List.length_map]; exact lt_line (by omega)
  · intro i x e H2 hx he s2 Q' q'
    obtain ⟨wd, hw, rfl⟩ := map_at hx
    have he2 : e = sD (wd.map PyProof.Rows.lo1) := by
      unfold cors at he
      rw [List.map_map, List.getElem?_map, hw] at he
      exact (Option.some.inj he).symm
    subst he2
    have hm : wd ∈ wrds l := List.mem_of_getElem? hw
    have hlow := SX.lower_S (all128 (wrds_mem hc wd hm))
    have hln := wrds_lens l wd hm
    refine ⟨rfl, _, rfl, ⟨_, rfl⟩, S wd, rfl, rfl, ?_, ?_⟩
    · rw [SX.S_len]; omega
    · rw [hlow]
      exact q' _ _ (Same.refl _) (.str _)
  · intro H2 s2 d2
    obtain ⟨D', e, hs2⟩ := dp_seqLS (ts := cors l) d2
    cases e
    refine .inl ⟨D, _, rfl, sqL_mono (ex_same _ _) hs2, fun z hz => ?_⟩
    exact q _ _ ((s1.trans s2).trans (same_new hz)) (dp_newStrs (cors l) (s1.trans s2) hz)
end
end Tk
namespace Tk
open PySem PySem.Spec PyProof.Rows L2
open SX (S)

section
variable {P : Program} {w : World} {K : PySem.W.Frag} {mg : Str → Option Value} {base : Heap} {C SH : Addr}

theorem sc_init : FnScope ["self", "ones", "others", "words", "prices", "text"] ["self", "ones", "others", "words", "prices"] (defScope (metS 0)) := ⟨rfl, rfl, rfl, by decide +kernel, rfl, by decide +kernel, by decide +kernel⟩
theorem bn_init : Bnd "__init__" "Pricing.__init__" (metS 0) ["self", "ones", "others", "words", "prices"] := fun _ _ _ _ _ _ us hl => match us, hl with | [_, _, _, _, _], _ => rfl
theorem rd_off {H : Hp} {p a : Addr} {u : HO} (hp : ¬ Rd H p u) (h : Rd H a u) : Rd (ex (one p) H) a u := by
  have nap : a ≠ p := fun e => hp (e ▸ h)
  rcases h with h | ⟨o, h⟩
  · exact .inl ((ex_out (one_ne nap)).trans h)
  · exact .inr ⟨o, (ex_out (one_ne nap)).trans h⟩
theorem sqT_off {K : PySem.W.Frag} {H : Hp} {p a : Addr} {xs : List V} (hp : ∀ u, ¬ Rd H p (.tup u)) (h : SqT K H a xs) : SqT K (ex (one p) H) a xs := by
  rcases h with h | h
  · exact .inl (rd_off (hp _) h)
  · exact .inr h
theorem sqL_off {K : PySem.W.Frag} {H : Hp} {p a : Addr} {xs : List V} (hp : ∀ u, ¬ Rd H p (.lst u)) (h : SqL K H a xs) : SqL K (ex (one p) H) a xs := by
  rcases h with h | h
  · exact .inl (rd_off (hp _) h)
  · exact .inr h
mutual
theorem dp_off {K : PySem.W.Frag} {H : Hp} {p : Addr} (h1 : ∀ u, ¬ Rd H p (.tup u)) (h2 : ∀ u, ¬ Rd H p (.lst u)) : ∀ (d : PyData) (v : V), Dp K H v d → Dp K (ex (one p) H) v d
  | .none, _, h => by cases h; exact .non
  | .bool b, _, h => by cases h; exact .bl b
  | .int i, _, h => by cases h; exact .int i
  | .str x, _, h => by cases h; exact .str x
  | .list ds, _, h => by
    cases h with
    | lst hs ha => exact .lst (sqL_off h2 hs) (dpAll_off h1 h2 ds _ ha)
  | .tuple ds, _, h => by
    cases h with
    | tup hs ha => exact .tup (sqT_off h1 hs) (dpAll_off h1 h2 ds _ ha)
  | .dict _, _, h => by cases h
theorem dpAll_off {K : PySem.W.Frag} {H : Hp} {p : Addr} (h1 : ∀ u, ¬ Rd H p (.tup u)) (h2 : ∀ u, ¬ Rd H p (.lst u)) : ∀ (ds : List PyData) (vs : List V), DpAll K H vs ds → DpAll K (ex (one p) H) vs ds
  | [], _, h => by cases h; exact .nil
  | d :: ds, _, h => by
    cases h with
    | cons a b => exact .cons (dp_off h1 h2 d _ a) (dpAll_off h1 h2 ds _ b)
end
theorem putF_flds (a b : Addr) (w pr : V) : putF "prices" pr (putF "known" w (putF "cores" (.ref b) (putF "sizes" (.ref a) []))) = flds a b w pr := rfl
theorem lcT_mapR {K : PySem.W.Frag} {g : TG} {te : TE} {vs : List Nat} {σ : L2.St} {H1 : Hp} {D : Addr} {Qd : Hp → Prop} {α : Type} (Rl : Hp → V → α → Prop) (mono : ∀ H H' v t, Same H H' → Rl H v t → Rl H' v t) {a : Addr} {xs : List V} (hx : SqT K H1 a xs) (ts : List α)
    (hl : ts.length = xs.length) (hD : H1 D = none) (hn : xs.length < sizeLine)
    (hs : ∀ (i : Nat) (x : V) (t : α) (H : Hp), xs[i]? = some x → ts[i]? = some t → Same H1 H → ∀ Q : VK, (∀ y H'', Same H H'' → Rl (nw H H'') y t → Q y H'') → g x (wipe σ vs) H fun σ2 H2 => wipe σ2 vs = wipe σ vs ∧ te σ2 H2 Q)
    (hd : ∀ H' acc, Same H1 H' → H' D = some (.lst acc) → acc.length = ts.length → (∀ (j : Nat) v t, acc[j]? = some v → ts[j]? = some t → Rl H' v t) → Qd H') :
    ∃ W : Nat → Nat → Hp → Prop, (∃ m, W 0 m (upd H1 D (.lst []))) ∧ ∀ i m H, W i m H →
      ((Itt K a).stop i H ∧ Qd H) ∨ ((Itt K a).go i H ∧ ∃ Nx : Hp → Prop, (∀ H', Nx H' → ∃ m', m' < m ∧ W (i + 1) m' H') ∧ ∀ x H', (Itt K a).yld i H x H' → g x (wipe σ vs) H' fun σ2 H2 => wipe σ2 vs = wipe σ vs ∧ tYes σ2 H2 fun b H3 =>
        if b = true then te σ2 H3 fun y H4 => ∃ acc, H4 D = some (.lst acc) ∧ acc.length < sizeLine ∧ Nx (upd H4 D (.lst (acc ++ [y]))) else Nx H3) := by
  have kD : ∀ {H : Hp} {o : HO}, Same H1 H → Same H1 (upd H D o) := fun {H o} s b u e => by
    rw [upd_ne (ne_of_none e hD)]; exact s b u e
  refine lc_it (walk_tup (xs := xs)) (fun i H => Same H1 H ∧ ∃ acc, H D = some (.lst acc) ∧ acc.length = i ∧ ∀ (j : Nat) v t, acc[j]? = some v → ts[j]? = some t → Rl (ex (one D) H) v t) ?_ ?_ ?_ ?_
  · exact ⟨kD (Same.refl _), [], upd_same, rfl, fun j v t h => by simp at h⟩
  · rintro i H _ ⟨s, _⟩
    exact sqT_mono s hx
  · rintro i x H H' hi ⟨s, acc, ha, hl2, hr⟩ ⟨rfl, hxi⟩
    have ht : ts[i]? = some ts[i] := List.getElem?_eq_getElem (by omega)
    refine hs i x ts[i] H' hxi ht s _ ?_
    intro y H'' s2 hy
    refine ⟨acc, s2 D _ ha, by omega, kD (s.trans s2), acc ++ [y], upd_same, by rw [List.length_append, hl2]; rfl, ?_⟩
    intro j v t hj htj
    rw [ex_upd (one_self D)]
    by_cases hji : j < i
    · rw [List.getElem?_append_left (by omega)] at hj
      exact mono _ _ _ _ (Kp.of s2).ex (hr j v t hj htj)
    · have hji2 : j = i := by
        have := at_lt hj
        rw [List.length_append, hl2] at this
        have : j < i + 1 := this
        omega
      subst hji2
      rw [List.getElem?_append_right (by omega), hl2, Nat.sub_self] at hj
      have e1 : y = v := Option.some.inj hj
      rw [ht] at htj
      have e2 : ts[j] = t := Option.some.inj htj
      rw [← e1, ← e2]
      exact mono _ _ _ _ (nw_le (le_one (dm_some ha))) hy
  · rintro H ⟨s, acc, ha, hl2, hr⟩
    exact hd H acc s ha (by omega) fun j v t h1 h2 => mono _ _ _ _ (ex_same _ _) (hr j v t h1 h2)
theorem corL_of {K : PySem.W.Frag} {H : Hp} {D : Addr} {acc : List V} {ts : List Tx} (ha : H D = some (.lst acc)) (hl : acc.length = ts.length) (hr : ∀ (j : Nat) v t, acc[j]? = some v → ts[j]? = some t → ∃ d, v = .ref d ∧ Noted H d (cors t)) : CorL K H D ts := by
  have e : acc = (acc.map fun v => match v with | .ref d => d | _ => 0).map V.ref := by
    apply List.ext_getElem?
    intro j
    rw [List.map_map, List.getElem?_map]
    cases h : acc[j]? with
    | none => rfl
    | some v =>
      have hj : j < ts.length := by rw [← hl]; exact at_lt h
      obtain ⟨d, rfl, _⟩ := hr j v ts[j] h (List.getElem?_eq_getElem hj)
      rfl
  refine ⟨acc.map fun v => match v with | .ref d => d | _ => 0, ?_, by rw [List.length_map, hl], ?_⟩
  · rw [← e]
    exact SqL.of ha
  · intro i d t hi ht
    obtain ⟨v, hv, hd⟩ := map_at hi
    obtain ⟨d', rfl, hn⟩ := hr i v t hv ht
    rw [hd]
    exact hn
theorem cors_len (l : Tx) : (cors l).length ≤ l.length + 1 := by
  unfold cors
  rw [List.length_map]
  exact wrds_len l
theorem c_init (T : Txt K mg C SH) : C8.Mak P w K mg base 3 "Pricing" C (sp_init K C) [] := by
  have c_cores_of : C8.Cal P w K mg base 2 "cores_of" (sp_cores_of K C) [] := Tk.c_cores_of T
  have c_noted : C8.Cal P w K mg base 1 "noted" (sp_noted K C) [] := Tk.c_noted T
  have c_size_of : C8.Cal P w K mg base 1 "size_of" (sp_size_of K C) [] := Tk.c_size_of T
  refine makD T.mgC T.d_init bn_init sc_init (fun vs H Q E h => by obtain ⟨_, _, _, _, _, _, _, rfl, _⟩ := h; rfl) (fun f cdv A outer s H vs Q E hr h => ?_)
  refine ⟨_, (pss_cons (ps_fld (pv 0) (pe_tup (pa_cons (pe_lc (own := [("text", 5)]) (tt := tYes) rfl sc_init.nd (pi_tupK K rfl (pv 1)) (blkOk_by (N := ["self", "ones", "others", "words", "prices", "text"]) (sc := defScope (metS 0)) (by decide +kernel)) (fun _ _ _ _ _ => by exact (pg_name (i := 5) sc_init.nd rfl (Or.inl rfl))) (fun _ _ _ _ _ => by exact pts_nil) (fun _ _ _ _ _ => by exact (C8.pe_c c_size_of hr (by decide) (by rfl) (pa_cons (pv 5) pa_nil)))) (pa_cons (pe_lc (own := [("text", 5)]) (tt := tYes) rfl sc_init.nd (pi_tupK K rfl (pv 2)) (blkOk_by (N := ["self", "ones", "others", "words", "prices", "text"]) (sc := defScope (metS 0)) (by decide +kernel)) (fun _ _ _ _ _ => by exact (pg_name (i := 5) sc_init.nd rfl (Or.inl rfl))) (fun _ _ _ _ _ => by exact pts_nil) (fun _ _ _ _ _ => by exact (C8.pe_c c_size_of hr (by decide) (by rfl) (pa_cons (pv 5) pa_nil)))) pa_nil))) (by rfl))
    (pss_cons (ps_fld (pv 0) (pe_tup (pa_cons (pe_lc (own := [("text", 5)]) (tt := tYes) rfl sc_init.nd (pi_tupK K rfl (pv 1)) (blkOk_by (N := ["self", "ones", "others", "words", "prices", "text"]) (sc := defScope (metS 0)) (by decide +kernel)) (fun _ _ _ _ _ => by exact (pg_name (i := 5) sc_init.nd rfl (Or.inl rfl))) (fun _ _ _ _ _ => by exact pts_nil) (fun _ _ _ _ _ => by exact (C8.pe_c c_noted hr (by decide) (by rfl) (pa_cons (C8.pe_c c_cores_of hr (by decide) (by rfl) (pa_cons (pv 5) pa_nil)) pa_nil)))) (pa_cons (pe_lc (own := [("text", 5)]) (tt := tYes) rfl sc_init.nd (pi_tupK K rfl (pv 2)) (blkOk_by (N := ["self", "ones", "others", "words", "prices", "text"]) (sc := defScope (metS 0)) (by decide +kernel)) (fun _ _ _ _ _ => by exact (pg_name (i := 5) sc_init.nd rfl (Or.inl rfl))) (fun _ _ _ _ _ => by exact pts_nil) (fun _ _ _ _ _ => by exact (C8.pe_c c_noted hr (by decide) (by rfl) (pa_cons (C8.pe_c c_cores_of hr (by decide) (by rfl) (pa_cons (pv 5) pa_nil)) pa_nil)))) pa_nil))) (by rfl))
    (pss_cons (ps_fld (pv 0) (pv 3) (by rfl))
    (pss_one (ps_fld (pv 0) (pv 4) (by rfl)))))), ?_⟩
  obtain ⟨p, dx, va, vb, vw, vpr, P, rfl, hp, okp, hda, hdb, hdw, hdp, q⟩ := h
  obtain ⟨a1, rfl, hs1⟩ := dp_seqS hda
  obtain ⟨a2, rfl, hs2⟩ := dp_seqS hdb
  have hn1 := okp.n1
  have hn2 := okp.n2
  have sizes : ∀ (ts : List Tx) (okts : ∀ t ∈ ts, okT t) (i : Nat) (x : V) (e : PyData) (H3 : Hp) (Q' : VK), (ts.map fun l => V.str (S l))[i]? = some x → (ts.map fun t => PyData.int ((sizT t : Nat) : Int))[i]? = some e → (∀ y H'', Same H3 H'' → Dp K (nw H3 H'') y e → Q' y H'') →
      ∃ t, x = .str (S t) ∧ okT t ∧ RetF (.int ((sizT t : Nat) : Int)) H3 Q' := by
    intro ts okts i x e H3 Q' hx he q'
    obtain ⟨t, ht, rfl⟩ := map_at hx
    obtain ⟨t', ht', rfl⟩ := map_at he
    rw [ht] at ht'
    cases ht'
    exact ⟨t, rfl, okts t (List.mem_of_getElem? ht), fun H4 s4 => q' _ _ s4 (.int _)⟩
  have corss : ∀ (ts : List Tx) (okts : ∀ t ∈ ts, okT t) (i : Nat) (x : V) (t : Tx) (H3 : Hp) (Q' : VK), (ts.map fun l => V.str (S l))[i]? = some x → ts[i]? = some t → (∀ y H'', Same H3 H'' → (∃ d, y = .ref d ∧ Noted (nw H3 H'') d (cors t)) → Q' y H'') →
      ∃ t, x = .str (S t) ∧ okT t ∧ RetN K (txsD (cors t)) H3 fun v H4 => sp_noted K C ([v] ++ []) H4 Q' C8.E0 := by
    intro ts okts i x t H3 Q' hx ht q'
    obtain ⟨t', ht', rfl⟩ := map_at hx
    rw [ht] at ht'
    cases ht'
    have ok := okts t (List.mem_of_getElem? ht)
    have h1 := cors_len t
    have h2 := ok.1
    refine ⟨t, rfl, ok, fun v H4 s4 d4 => ⟨v, cors t, rfl, dp_up d4 (ex_same _ _), ?_, fun d H5 s5 hd hn => q' _ _ (s4.trans s5) ⟨d, rfl, ?_⟩⟩⟩
    · omega
    · obtain ⟨kvs, e1, e2⟩ := hn
      exact ⟨kvs, (ex_out (dm_none (s4.free hd))).trans e1, e2⟩
  -- self.sizes
  refine ⟨_, rfl, a1, rfl, ⟨_, hs1⟩, fun D1 hD1 => lcT_map (K := K) hs1 (P.ones.map fun t => PyData.int ((sizT t : Nat) : Int)) (by simp) hD1 (by rw [List.length_map]; exact lt_line (by omega)) ?_ ?_⟩
  · intro i x e H3 hx he s3 Q' q'
    obtain ⟨t, rfl, ok, r⟩ := sizes P.ones okp.ones i x e H3 Q' hx he q'
    exact ⟨rfl, _, rfl, t, rfl, ok, r⟩
  intro H1 s1 d1
  refine ⟨_, rfl, a2, rfl, ⟨_, sqT_mono s1 hs2⟩, fun D2 hD2 => lcT_map (K := K) (sqT_mono s1 hs2) (P.others.map fun t => PyData.int ((sizT t : Nat) : Int)) (by simp) hD2 (by rw [List.length_map]; exact lt_line (by omega)) ?_ ?_⟩
  · intro i x e H3 hx he s3 Q' q'
    obtain ⟨t, rfl, ok, r⟩ := sizes P.others okp.others i x e H3 Q' hx he q'
    exact ⟨rfl, _, rfl, t, rfl, ok, r⟩
  intro H2 s2 d2
  refine ⟨by show 2 ≤ sizeLine; exact le_line (by omega), fun t ht => ?_⟩
  have s02 : Same H (upd H2 t (.tup [.ref D1, .ref D2])) := (s1.trans s2).trans (same_new ht)
  refine ⟨_, rfl, p, C, dx, [], rfl, s02 _ _ hp, T.cl, T.na_sizes, by show 0 < 1000; decide, ?_⟩
  have dsz : Dp K (ex (one p) (upd H2 t (.tup [.ref D1, .ref D2]))) (.ref t) (szD P) := by
    have ntp : t ≠ p := fun e => by rw [e] at ht; rw [(s1.trans s2) _ _ hp] at ht; cases ht
    refine .tup (SqT.of ((ex_out (one_ne ntp)).trans upd_same)) (.cons (dp_up d1 ?_) (.cons (dp_up d2 ?_) .nil))
    · exact fun b o e => (Kp.of (S := one p) (s2.trans (same_new ht))).ex b o (nw_le (le_one (dm_some hp)) b o e)
    · exact fun b o e => (Kp.of (S := one p) (same_new ht)).ex b o (nw_le (le_one (dm_some (s1 _ _ hp))) b o e)
  have k3 : Kp (one p) H (upd (upd H2 t (.tup [.ref D1, .ref D2])) p (.ins C dx (putF "sizes" (.ref t) []))) := (Kp.of s02).trans (Kp.write (one_self p) (s02 _ _ hp))
  have dsz3 : Dp K (ex (one p) (upd (upd H2 t (.tup [.ref D1, .ref D2])) p (.ins C dx (putF "sizes" (.ref t) [])))) (.ref t) (szD P) := by rw [ex_upd (one_self p)]; exact dsz
  have hp3 : (upd (upd H2 t (.tup [.ref D1, .ref D2])) p (.ins C dx (putF "sizes" (.ref t) []))) p = some (.ins C dx (putF "sizes" (.ref t) [])) := upd_same
  generalize upd (upd H2 t (.tup [.ref D1, .ref D2])) p (.ins C dx (putF "sizes" (.ref t) [])) = H3 at k3 dsz3 hp3 ⊢
  -- what was handed in still stands
  have rp1 : ∀ u, ¬ Rd H p (.tup u) := fun u e => by
    rcases e with e | ⟨o, e⟩
    · rw [hp] at e; cases e
    · rw [hp] at e; cases e
  have rp2 : ∀ u, ¬ Rd H p (.lst u) := fun u e => by
    rcases e with e | ⟨o, e⟩
    · rw [hp] at e; cases e
    · rw [hp] at e; cases e
  have hs13 : SqT K H3 a1 (P.ones.map fun l => V.str (S l)) := sqT_mono (ex_same _ _) (sqT_mono k3.ex (sqT_off rp1 hs1))
  have hs23 : SqT K H3 a2 (P.others.map fun l => V.str (S l)) := sqT_mono (ex_same _ _) (sqT_mono k3.ex (sqT_off rp1 hs2))
  have hdw3 : Dp K (ex (one p) H3) vw (knD P) := dp_up (dp_off rp1 rp2 _ _ hdw) k3.ex
  have hdp3 : Dp K (ex (one p) H3) vpr (prsD P) := dp_up (dp_off rp1 rp2 _ _ hdp) k3.ex
  -- self.cores
  refine ⟨_, rfl, a1, rfl, ⟨_, hs13⟩, fun D3 hD3 => lcT_mapR (K := K) (fun H v t => ∃ d, v = .ref d ∧ Noted H d (cors t)) (fun _ _ _ _ s ⟨d, e, h⟩ => ⟨d, e, noted_mono s h⟩) hs13 P.ones (by simp) hD3 (by rw [List.length_map]; exact lt_line (by omega)) ?_ ?_⟩
  · intro i x t H4 hx ht s4 Q' q'
    obtain ⟨t', rfl, ok, r⟩ := corss P.ones okp.ones i x t H4 Q' hx ht q'
    exact ⟨rfl, _, rfl, t', rfl, ok, r⟩
  intro H4 acc4 s4 h4 hl4 hr4
  have c4 := corL_of (K := K) h4 hl4 hr4
  refine ⟨_, rfl, a2, rfl, ⟨_, sqT_mono s4 hs23⟩, fun D4 hD4 => lcT_mapR (K := K) (fun H v t => ∃ d, v = .ref d ∧ Noted H d (cors t)) (fun _ _ _ _ s ⟨d, e, h⟩ => ⟨d, e, noted_mono s h⟩) (sqT_mono s4 hs23) P.others (by simp) hD4 (by rw [List.length_map]; exact lt_line (by omega)) ?_ ?_⟩
  · intro i x t H5 hx ht s5 Q' q'
    obtain ⟨t', rfl, ok, r⟩ := corss P.others okp.others i x t H5 Q' hx ht q'
    exact ⟨rfl, _, rfl, t', rfl, ok, r⟩
  intro H5 acc5 s5 h5 hl5 hr5
  have c5 := corL_of (K := K) h5 hl5 hr5
  refine ⟨by show 2 ≤ sizeLine; exact le_line (by omega), fun t5 ht5 => ?_⟩
  have s35 : Same H3 (upd H5 t5 (.tup [.ref D3, .ref D4])) := (s4.trans s5).trans (same_new ht5)
  have nt5 : t5 ≠ p := fun e => by rw [e] at ht5; rw [(s4.trans s5) _ _ hp3] at ht5; cases ht5
  have np3 : ∀ {a : Addr}, H3 a = none → a ≠ p := fun {a} h e => by rw [e, hp3] at h; cases h
  have off : ∀ {H' : Hp} {o o' : HO} {a : Addr} {u : HO}, H' p = some o → a ≠ p → H' a = some u → ex (one p) H' a = some u := fun h1 h2 h3 => (ex_out (one_ne h2)).trans h3
  -- what stands beside p
  have w1 : Dp K (ex (one p) (upd H5 t5 (.tup [.ref D3, .ref D4]))) (.ref t) (szD P) := dp_up dsz3 (Kp.of s35).ex
  have w2 : SqT K (ex (one p) (upd H5 t5 (.tup [.ref D3, .ref D4]))) t5 [.ref D3, .ref D4] := SqT.of ((ex_out (one_ne nt5)).trans upd_same)
  have cor_off : ∀ {H' : Hp} {c : Addr} {ts : List Tx} {o : List (Str × V)}, H' p = some (.ins C dx o) → CorL K H' c ts → CorL K (ex (one p) H') c ts := by
    intro H' c ts o hpo ⟨ds, e1, e2, e3⟩
    refine ⟨ds, sqL_off (fun u e => ?_) e1, e2, fun i d t a b => ?_⟩
    · rcases e with e | ⟨o, e⟩
      · rw [hpo] at e; cases e
      · rw [hpo] at e; cases e
    · obtain ⟨kvs, f1, f2⟩ := e3 i d t a b
      refine ⟨kvs, (ex_out (one_ne fun z => ?_)).trans f1, f2⟩
      rw [z, hpo] at f1
      cases f1
  have hp5 : (upd H5 t5 (.tup [.ref D3, .ref D4])) p = some (.ins C dx (putF "sizes" (.ref t) [])) := s35 _ _ hp3
  have w3 : CorL K (ex (one p) (upd H5 t5 (.tup [.ref D3, .ref D4]))) D3 P.ones := cor_off hp5 (corL_mono (s5.trans (same_new ht5)) c4)
  have w4 : CorL K (ex (one p) (upd H5 t5 (.tup [.ref D3, .ref D4]))) D4 P.others := cor_off hp5 (corL_mono (same_new ht5) c5)
  have w5 := dp_up hdw3 (Kp.of (S := one p) s35).ex
  have w6 := dp_up hdp3 (Kp.of (S := one p) s35).ex
  have k5 : Kp (one p) H (upd H5 t5 (.tup [.ref D3, .ref D4])) := k3.trans (.of s35)
  generalize upd H5 t5 (.tup [.ref D3, .ref D4]) = H6 at hp5 w1 w2 w3 w4 w5 w6 k5 ⊢
  refine ⟨_, rfl, p, C, dx, _, rfl, hp5, T.cl, T.na_cores, by show 1 < 1000; decide, ?_⟩
  -- self.known, self.prices
  refine ⟨_, rfl, _, rfl, p, C, dx, _, rfl, upd_same, T.cl, T.na_known, ?_, ?_⟩
  · exact Nat.lt_of_le_of_lt (length_putF _ _ _) (by show 1 + 1 < 1000; decide)
  refine ⟨_, rfl, _, rfl, p, C, dx, _, rfl, upd_same, T.cl, T.na_prices, ?_, ?_⟩
  · exact Nat.lt_of_le_of_lt (length_putF _ _ _) (Nat.lt_of_le_of_lt (Nat.add_le_add_right (length_putF _ _ _) 1) (by show 1 + 1 + 1 < 1000; decide))
  have kf : Kp (one p) H6 (upd (upd (upd H6 p (.ins C dx (putF "cores" (.ref t5) (putF "sizes" (.ref t) [])))) p (.ins C dx (putF "known" vw (putF "cores" (.ref t5) (putF "sizes" (.ref t) []))))) p (.ins C dx (flds t t5 vw vpr))) := by
    rw [upd_upd, upd_upd]
    exact Kp.write (one_self p) hp5
  refine q _ (k5.trans kf) ⟨dx, t, t5, D3, D4, vw, vpr, upd_same, ?_, ?_, ?_, ?_, ?_, ?_⟩
  · exact dp_up (dp_up w1 kf.ex) (ex_same _ _)
  · exact sqT_mono (ex_same _ _) (sqT_mono kf.ex w2)
  · exact corL_mono (ex_same _ _) (corL_mono kf.ex w3)
  · exact corL_mono (ex_same _ _) (corL_mono kf.ex w4)
  · exact dp_up (dp_up w5 kf.ex) (ex_same _ _)
  · exact dp_up (dp_up w6 kf.ex) (ex_same _ _)
end
end Tk
namespace Tk
open PySem PySem.Spec PyProof.Rows L2
open SX (S)

section
variable {P : Program} {w : World} {K : PySem.W.Frag} {mg : Str → Option Value} {base : Heap} {C SH : Addr}

theorem sc_stands : FnScope ["self", "core", "side", "places", "place"] ["self", "core", "side", "places"] (defScope (metS 1)) := ⟨rfl, rfl, rfl, by decide +kernel, rfl, by decide +kernel, by decide +kernel⟩
theorem bn_stands : Bnd "stands" "Pricing.stands" (metS 1) ["self", "core", "side", "places"] := fun _ _ _ _ _ _ us hl => match us, hl with | [_, _, _, _], _ => rfl

theorem c_stands (T : Txt K mg C SH) : C8.Met P w K mg base 1 C "stands" (sp_stands K C) [] := by
  refine metD T.cl T.d_stands bn_stands sc_stands (fun vs H Q E h => by obtain ⟨_, _, _, _, _, _, rfl, _⟩ := h; rfl) (fun f cdv A outer s H vs Q E hr h => ?_)
  refine ⟨_, (pss_one (ps_ret (pe_callB (cr_anyK K rfl rfl) (by rfl) T.any (by decide +kernel) (pa_cons (pe_lc (own := [("place", 4)]) (tt := tYes) rfl sc_stands.nd (pi_tupK K rfl (pv 3)) (blkOk_by (N := ["self", "core", "side", "places", "place"]) (sc := defScope (metS 1)) (by decide +kernel)) (fun _ _ _ _ _ => by exact (pg_name (i := 4) sc_stands.nd rfl (Or.inl rfl))) (fun _ _ _ _ _ => by exact pts_nil) (fun _ _ _ _ _ => by exact (pe_din (hu_of hr) (pv 1) (pe_ix (ix_listK K rfl) (pe_ix (ix_tupK K rfl) (pe_fldK K rfl (pv 0) (by rfl)) (pv 2) (fun _ _ => rfl)) (pv 4) (fun _ _ => rfl))))) pa_nil)))), ?_⟩
  obtain ⟨p, c, sd, x, P, ks, rfl, hsd, hp, hx, hkl, hk, q⟩ := h
  obtain ⟨dx, a, b, c1, c2, wv, pr, h1, h2, h3, h4, h5, h6, h7⟩ := id hp
  obtain ⟨ax, xs, rfl, hxs, rfl⟩ := dp_seqN hx
  have hside : ∃ cc, atI [V.ref c1, V.ref c2] (sd : Int) = some (V.ref cc) ∧ CorL K H cc (side P sd) := by
    rcases (show sd = 0 ∨ sd = 1 by omega) with rfl | rfl
    · exact ⟨c1, atI_nat rfl, h4⟩
    · exact ⟨c2, atI_nat rfl, h5⟩
  obtain ⟨cc, hcc, ds, hds, hdl, hdn⟩ := hside
  refine ⟨_, rfl, ax, rfl, ⟨_, hxs⟩, fun D hD => lcT_map (K := K) hxs (ks.map fun k => PyData.bool (decide (c ∈ cors ((side P sd).getD k [])))) (by simp) hD (by rw [List.length_map]; exact lt_line (by omega)) ?_ ?_⟩
  · intro i y e H2 hy he s2 Q' q'
    obtain ⟨k, hk1, rfl⟩ := map_at hy
    obtain ⟨k', hk2, rfl⟩ := map_at he
    rw [hk1] at hk2
    cases hk2
    have hkb := hk k (List.mem_of_getElem? hk1)
    have ht : (side P sd)[k]? = some (side P sd)[k] := List.getElem?_eq_getElem hkb
    have hd' : ds[k]? = some (ds[k]'(by omega)) := List.getElem?_eq_getElem (by omega)
    obtain ⟨kvs, hkv, hv⟩ := noted_mono s2 (hdn k _ _ hd' ht)
    refine ⟨rfl, _, rfl, _, rfl, p, C, dx, _, _, rfl, s2 _ _ h1, T.cl, T.na_cores, flds_cores _ _ _ _, _, rfl, b, _, _, _, rfl, rfl, sqT_mono s2 h3, hcc, _, rfl, cc, _, _, _, rfl, rfl, sqL_mono s2 hds,
      atI_nat (by rw [List.getElem?_map, hd']; rfl), _, _, rfl, DGet.k (k := Sum.inr (S c)) hkv, ?_⟩
    have eg : (side P sd).getD k [] = (side P sd)[k] := by rw [List.getD_eq_getElem?_getD, ht]; rfl
    rw [eg] at q'
    rw [hv c]
    exact q' _ _ (Same.refl _) (.bl _)
  · intro H2 s2 d2
    refine ⟨D, ks.map fun k => decide (c ∈ cors ((side P sd).getD k [])), rfl, sqL_ofB (by rw [List.map_map]; exact d2), ?_⟩
    have e : (ks.map fun k => decide (c ∈ cors ((side P sd).getD k []))).any id = stnd (side P sd) c ks := by
      unfold stnd
      rw [List.any_map]
      rfl
    rw [e]
    exact q H2 s2
end
end Tk
namespace Tk
open PySem PySem.Spec PyProof.Rows L2
open SX (S)

section
variable {P : Program} {w : World} {K : PySem.W.Frag} {mg : Str → Option Value} {base : Heap} {C SH : Addr}

theorem sc_hits_at : FnScope ["self", "ones", "others", "many", "one", "other"] ["self", "ones", "others"] (defScope (metS 2)) := ⟨rfl, rfl, rfl, by decide +kernel, rfl, by decide +kernel, by decide +kernel⟩
theorem bn_hits_at : Bnd "hits_at" "Pricing.hits_at" (metS 2) ["self", "ones", "others"] := fun _ _ _ _ _ _ us hl => match us, hl with | [_, _, _], _ => rfl
theorem no_stands (a b : Addr) (w pr : V) : (flds a b w pr).lookup ("stands" : Str) = none := flds_no a b w pr (by decide +kernel) (by decide +kernel) (by decide +kernel) (by decide +kernel)
theorem c_hits_at (T : Txt K mg C SH) : C8.Met P w K mg base 2 C "hits_at" (sp_hits_at K C) [] := by
  have c_stands : C8.Met P w K mg base 1 C "stands" (sp_stands K C) [] := Tk.c_stands T
  refine metD T.cl T.d_hits_at bn_hits_at sc_hits_at (fun vs H Q E h => by obtain ⟨_, _, _, _, _, rfl, _⟩ := h; rfl) (fun f cdv A outer s H vs Q E hr h => ?_)
  refine ⟨_, (pss_cons (ps_set (i := 3) sc_hits_at.nd rfl (Or.inl rfl) pe_int)
    (pss_cons (ps_for PassesOwn.never rfl (pi_tupK K rfl (pe_fldK K rfl (pv 0) (by rfl))) (pg_tupK K (n := 2) rfl rfl (pgs_cons (pg_name (i := 4) sc_hits_at.nd rfl (Or.inl rfl)) (pgs_cons (pg_name (i := 5) sc_hits_at.nd rfl (Or.inl rfl)) pgs_nil)))
      (pss_one (ps_if (PW.pt (pw_and (pt_val (C8.pe_mt c_stands hr (by decide) (pv 0) (pa_cons (pv 4) (pa_cons pe_int (pa_cons (pv 1) pa_nil))))) (pw_and1 (pt_val (C8.pe_mt c_stands hr (by decide) (pv 0) (pa_cons (pv 5) (pa_cons pe_int (pa_cons (pv 2) pa_nil)))))))) (pss_one (ps_aug (i := 3) sc_hits_at.nd rfl (Or.inl rfl) pe_int ip_add)) pss_nil)))
    (pss_one (ps_ret (pv 3))))), ?_⟩
  obtain ⟨p, x, y, P, l, rfl, okp, hp, hx, hy, ⟨hl1, hl2, hl3, hl4⟩, q⟩ := h
  obtain ⟨dx, a, b, c1, c2, wv, pr, h1, h2, h3, h4, h5, h6, h7⟩ := id hp
  obtain ⟨ak, xk, rfl, hsk, hdk⟩ := dp_tup h6
  have hxl : xk.length = P.known.length := by rw [dpa_len hdk, List.length_map]
  refine ⟨_, rfl, p, C, dx, _, _, rfl, h1, T.cl, T.na_known, flds_known _ _ _ _, ak, rfl, ⟨_, hsk⟩, for_tup (K := K) (a := ak) (xs := xk) (fun i σ H' => ∃ y4 y5, σ = [some (.ref p), some x, some y, some (.int ((((P.known.take i).filter fun q => stnd P.ones q.1 l.1 && stnd P.others q.2 l.2).length : Nat) : Int)), y4, y5] ∧ Same H H')
    ⟨none, none, rfl, Same.refl _⟩ (fun _ _ _ _ ⟨_, _, _, s⟩ => sqT_mono s hsk) ?_ ?_⟩
  · rintro i z σ H' hz ⟨y4, y5, rfl, s⟩
    obtain ⟨d, hd1, hdz⟩ := dpa_of hdk hz
    obtain ⟨kq, hkq, rfl⟩ := map_at hd1
    obtain ⟨at', u, v, rfl, ht, hu, hv⟩ := dp_pair hdz
    have eu := dp_str hu
    have ev := dp_str hv
    subst eu ev
    refine ⟨at', _, rfl, sqT_mono s ht, rfl, _, _, rfl, _, _, rfl, rfl, ?_⟩
    refine ⟨_, rfl, p, dx, _, rfl, s _ _ h1, no_stands _ _ _ _, _, rfl, _, rfl, p, kq.1, 0, x, P, l.1, rfl, by decide, prAt_mono s hp, dp_up hx s, hl1, hl3, fun H3 s3 => ⟨_, rfl, ?_⟩⟩
    have s13 := s.trans s3
    have step : ∀ b : Bool, (stnd P.ones kq.1 l.1 && stnd P.others kq.2 l.2) = b → ((P.known.take (i + 1)).filter fun q => stnd P.ones q.1 l.1 && stnd P.others q.2 l.2).length = ((P.known.take i).filter fun q => stnd P.ones q.1 l.1 && stnd P.others q.2 l.2).length + (if b = true then 1 else 0) := by
      intro b hb
      rw [take_at hkq, List.filter_append, List.length_append, List.filter_cons, hb]
      cases b <;> rfl
    cases hb1 : stnd P.ones kq.1 l.1 with
    | false =>
      have hb0 : stnd (side P 0) kq.1 l.1 = false := hb1
      rw [hb0]
      refine iteF (iteF ⟨some (.str (S kq.1)), some (.str (S kq.2)), ?_, s13⟩)
      rw [step false (by rw [hb1]; rfl)]
      rfl
    | true =>
      have hb0 : stnd (side P 0) kq.1 l.1 = true := hb1
      rw [hb0]
      refine iteT ⟨_, rfl, p, dx, _, rfl, s13 _ _ h1, no_stands _ _ _ _, _, rfl, _, rfl, p, kq.2, 1, y, P, l.2, rfl, by decide, prAt_mono s13 hp, dp_up hy s13, hl2, hl4, fun H4 s4 => ⟨_, rfl, ?_⟩⟩
      have s14 := s13.trans s4
      cases hb2 : stnd P.others kq.2 l.2 with
      | false =>
        have hb3 : stnd (side P 1) kq.2 l.2 = false := hb2
        rw [hb3]
        refine iteF ⟨some (.str (S kq.1)), some (.str (S kq.2)), ?_, s14⟩
        rw [step false (by rw [hb1, hb2]; rfl)]
        rfl
      | true =>
        have hb3 : stnd (side P 1) kq.2 l.2 = true := hb2
        rw [hb3]
        refine iteT ⟨_, rfl, _, _, rfl, rfl, some (.str (S kq.1)), some (.str (S kq.2)), ?_, s14⟩
        rw [step true (by rw [hb1, hb2]; rfl)]
        rfl
  · rintro σ H' ⟨y4, y5, rfl, s⟩
    rw [hxl, List.take_length]
    exact ⟨_, rfl, q H' s⟩
end
end Tk
namespace Tk
open PySem PySem.Spec PyProof.Rows L2
open SX (S)

section
variable {P : Program} {w : World} {K : PySem.W.Frag} {mg : Str → Option Value} {base : Heap} {C SH : Addr}

theorem sc_link_cost : FnScope ["self", "ones", "others", "out", "more", "cross", "stretch", "anchor", "left", "right", "greater", "place"] ["self", "ones", "others"] (defScope (metS 3)) := ⟨rfl, rfl, rfl, by decide +kernel, rfl, by decide +kernel, by decide +kernel⟩
theorem bn_link_cost : Bnd "link_cost" "Pricing.link_cost" (metS 3) ["self", "ones", "others"] := fun _ _ _ _ _ _ us hl => match us, hl with | [_, _, _], _ => rfl
theorem no_hits (a b : Addr) (w pr : V) : (flds a b w pr).lookup ("hits_at" : Str) = none := flds_no a b w pr (by decide +kernel) (by decide +kernel) (by decide +kernel) (by decide +kernel)
theorem or2_go {σ : L2.St} {H : Hp} {a b : Bool} {ta tb : TT} {Q : Bool → Hp → Prop} (ha : ∀ Q : Bool → Hp → Prop, Q a H → ta σ H Q) (hb : ∀ Q : Bool → Hp → Prop, Q b H → tb σ H Q) (h : Q (a || b) H) : tOr ta tb σ H Q := by
  refine ha _ ?_
  cases a
  · exact iteF (hb _ h)
  · exact iteT h
theorem sml_mul {i j : Int} (h : sml i) : CMul i j := .inl ⟨by have := h.1; omega, by have := h.2; omega⟩
theorem prs_tup {K : PySem.W.Frag} {H : Hp} {pr : V} {P : Prc} (h : Dp K H pr (prsD P)) : ∃ a, pr = .ref a ∧ SqT K H a [.int P.out, .int P.more, .int P.cross, .int P.stretch, .int P.anchor] := by
  obtain ⟨a, xs, rfl, hs, hd⟩ := dp_tup h
  have e := dpAll_ints (ns := [P.out, P.more, P.cross, P.stretch, P.anchor]) hd
  subst e
  exact ⟨a, rfl, hs⟩
theorem szL_at {K : PySem.W.Frag} {H : Hp} {v : V} {ts : List Tx} (h : Dp K H v (szL ts)) : ∃ a, v = .ref a ∧ SqL K H a (ts.map fun t => V.int ((sizT t : Nat) : Int)) := by
  obtain ⟨a, xs, rfl, hs, hd⟩ := dp_lst h
  have e : (ts.map fun t => PyData.int ((sizT t : Nat) : Int)) = (ts.map fun t => ((sizT t : Nat) : Int)).map PyData.int := by rw [List.map_map]; rfl
  rw [e] at hd
  have e2 := dpAll_ints hd
  rw [List.map_map] at e2
  subst e2
  exact ⟨a, rfl, hs⟩
theorem siz_at {ts : List Tx} {k : Nat} (h : k < ts.length) : (ts.map fun t => V.int ((sizT t : Nat) : Int))[k]? = some (V.int ((sizT (ts.getD k []) : Nat) : Int)) := by
  rw [List.getElem?_map, List.getD_eq_getElem?_getD, List.getElem?_eq_getElem h]
  rfl
theorem c_link_cost (T : Txt K mg C SH) : C8.Met P w K mg base 3 C "link_cost" (sp_link_cost K C) [] := by
  have c_hits_at : C8.Met P w K mg base 2 C "hits_at" (sp_hits_at K C) [] := Tk.c_hits_at T
  refine metD T.cl T.d_link_cost bn_link_cost sc_link_cost (fun vs H Q E h => by obtain ⟨_, _, _, _, _, rfl, _⟩ := h; rfl) (fun f cdv A outer s H vs Q E hr h => ?_)
  refine ⟨_, (pss_cons (ps_asg (pe_fldK K rfl (pv 0) (by rfl)) (pg_tupK K (n := 5) rfl rfl (pgs_cons (pg_name (i := 3) sc_link_cost.nd rfl (Or.inl rfl)) (pgs_cons (pg_name (i := 4) sc_link_cost.nd rfl (Or.inl rfl)) (pgs_cons (pg_name (i := 5) sc_link_cost.nd rfl (Or.inl rfl)) (pgs_cons (pg_name (i := 6) sc_link_cost.nd rfl (Or.inl rfl)) (pgs_cons (pg_name (i := 7) sc_link_cost.nd rfl (Or.inl rfl)) pgs_nil)))))))
    (pss_cons (ps_if (PW.pt (pw_or (pt_cmpR op_eq (pe_callB (call_lenK K rfl) (by rfl) T.len (by decide +kernel) (pa_cons (pv 1) pa_nil)) pe_int (nomark _)) (pw_or1 (pt_cmpR op_eq (pe_callB (call_lenK K rfl) (by rfl) T.len (by decide +kernel) (pa_cons (pv 2) pa_nil)) pe_int (nomark _))))) (pss_one (ps_ret (pv 3))) pss_nil)
    (pss_cons (ps_set (i := 8) sc_link_cost.nd rfl (Or.inl rfl) (pe_callB (cr_sumK K rfl rfl) (by rfl) T.sum (by decide +kernel) (pa_cons (pe_lc (own := [("place", 11)]) (tt := tYes) rfl sc_link_cost.nd (pi_tupK K rfl (pv 1)) (blkOk_by (N := ["self", "ones", "others", "out", "more", "cross", "stretch", "anchor", "left", "right", "greater", "place"]) (sc := defScope (metS 3)) (by decide +kernel)) (fun _ _ _ _ _ => by exact (pg_name (i := 11) sc_link_cost.nd rfl (Or.inl rfl))) (fun _ _ _ _ _ => by exact pts_nil) (fun _ _ _ _ _ => by exact (pe_ix (ix_listK K rfl) (pe_ix (ix_tupK K rfl) (pe_fldK K rfl (pv 0) (by rfl)) pe_int (fun _ _ => rfl)) (pv 11) (fun _ _ => rfl)))) pa_nil)))
    (pss_cons (ps_set (i := 9) sc_link_cost.nd rfl (Or.inl rfl) (pe_callB (cr_sumK K rfl rfl) (by rfl) T.sum (by decide +kernel) (pa_cons (pe_lc (own := [("place", 11)]) (tt := tYes) rfl sc_link_cost.nd (pi_tupK K rfl (pv 2)) (blkOk_by (N := ["self", "ones", "others", "out", "more", "cross", "stretch", "anchor", "left", "right", "greater", "place"]) (sc := defScope (metS 3)) (by decide +kernel)) (fun _ _ _ _ _ => by exact (pg_name (i := 11) sc_link_cost.nd rfl (Or.inl rfl))) (fun _ _ _ _ _ => by exact pts_nil) (fun _ _ _ _ _ => by exact (pe_ix (ix_listK K rfl) (pe_ix (ix_tupK K rfl) (pe_fldK K rfl (pv 0) (by rfl)) pe_int (fun _ _ => rfl)) (pv 11) (fun _ _ => rfl)))) pa_nil)))
    (pss_cons (ps_set (i := 10) sc_link_cost.nd rfl (Or.inl rfl) (pe_callB (call_max2 rfl) (by rfl) T.max (by decide +kernel) (pa_cons (pe_callB (call_lenK K rfl) (by rfl) T.len (by decide +kernel) (pa_cons (pv 1) pa_nil)) (pa_cons (pe_callB (call_lenK K rfl) (by rfl) T.len (by decide +kernel) (pa_cons (pv 2) pa_nil)) pa_nil))))
    (pss_one (ps_ret (pe_op op_sub (pe_op op_add (pe_op op_mul (pv 4) (pe_op op_sub (pv 10) pe_int)) (pe_op op_mul (pv 6) (pe_callB call_abs (by rfl) T.abs (by decide +kernel) (pa_cons (pe_op op_sub (pv 8) (pv 9)) pa_nil)))) (pe_op op_mul (pv 7) (C8.pe_mt c_hits_at hr (by decide) (pv 0) (pa_cons (pv 1) (pa_cons (pv 2) pa_nil)))))))))))), ?_⟩
  obtain ⟨p, x, y, P, l, rfl, okp, hp, hx, hy, okl, q⟩ := h
  obtain ⟨hl1, hl2, hl3, hl4⟩ := id okl
  obtain ⟨dx, a, b, c1, c2, wv, pr, h1, h2, h3, h4, h5, h6, h7⟩ := id hp
  obtain ⟨ap, rfl, hpr⟩ := prs_tup h7
  obtain ⟨ax, xs, rfl, hxs, rfl⟩ := dp_seqN hx
  obtain ⟨ay, ys, rfl, hys, rfl⟩ := dp_seqN hy
  obtain ⟨asz, u, v, e, hsz, hu, hv⟩ := dp_pair h2
  cases e
  obtain ⟨z1, rfl, hz1⟩ := szL_at hu
  obtain ⟨z2, rfl, hz2⟩ := szL_at hv
  -- out, more, cross, stretch, anchor = self.prices
  refine ⟨_, rfl, p, C, dx, _, _, rfl, h1, T.cl, T.na_prices, flds_prices _ _ _ _, ap, _, rfl, hpr, rfl, _, _, rfl, _, _, rfl, _, _, rfl, _, _, rfl, _, _, rfl, rfl, ?_⟩
  dsimp only
  refine or2_go (a := decide (V.int (l.1.length : Int) = V.int 0)) (b := decide (V.int (l.2.length : Int) = V.int 0)) (fun Q q => ⟨_, rfl, ax, _, rfl, .inr hxs, rfl, _, rfl, by rw [List.length_map]; exact q⟩) (fun Q q => ⟨_, rfl, ay, _, rfl, .inr hys, rfl, _, rfl, by rw [List.length_map]; exact q⟩) ?_
  unfold lkC at q
  by_cases h0 : l.1.length = 0 ∨ l.2.length = 0
  · have e : (decide (V.int (l.1.length : Int) = V.int 0) || decide (V.int (l.2.length : Int) = V.int 0)) = true := by
      rw [Bool.or_eq_true, decide_eq_true_eq, decide_eq_true_eq]
      rcases h0 with h0 | h0
      · exact .inl (by rw [h0]; rfl)
      · exact .inr (by rw [h0]; rfl)
    rw [e]
    rw [if_pos h0] at q
    exact iteT ⟨_, rfl, q H (Same.refl _)⟩
  · have e : (decide (V.int (l.1.length : Int) = V.int 0) || decide (V.int (l.2.length : Int) = V.int 0)) = false := by
      rw [Bool.or_eq_false_iff, decide_eq_false_iff_not, decide_eq_false_iff_not]
      exact ⟨fun z => h0 (.inl (by injection z with z; omega)), fun z => h0 (.inr (by injection z with z; omega))⟩
    rw [e]
    rw [if_neg h0] at q
    refine iteF ?_
    -- left
    refine ⟨_, rfl, ax, rfl, ⟨_, hxs⟩, fun D hD => lcT_map (K := K) hxs (l.1.map fun k => PyData.int ((sizT (P.ones.getD k []) : Nat) : Int)) (by simp) hD (by rw [List.length_map]; exact lt_line (by omega)) ?_ ?_⟩
    · intro i w e H2 hw he s2 Q' q'
      obtain ⟨k, hk1, rfl⟩ := map_at hw
      obtain ⟨k', hk2, rfl⟩ := map_at he
      rw [hk1] at hk2
      cases hk2
      refine ⟨rfl, _, rfl, p, C, dx, _, _, rfl, s2 _ _ h1, T.cl, T.na_sizes, flds_sizes _ _ _ _, _, _, _, _, rfl, rfl, sqT_mono s2 hsz, atI_nat (j := 0) rfl, _, rfl, _, _, _, _, rfl, rfl, sqL_mono s2 hz1, atI_nat (siz_at (hl3 k (List.mem_of_getElem? hk1))), q' _ _ (Same.refl _) (.int _)⟩
    intro H2 s2 d2
    refine ⟨D, l.1.map fun k => ((sizT (P.ones.getD k []) : Nat) : Int), rfl, sqL_of (by rw [List.map_map]; exact d2), ?_⟩
    -- right
    refine ⟨_, rfl, ay, rfl, ⟨_, sqT_mono s2 hys⟩, fun D2 hD2 => lcT_map (K := K) (sqT_mono s2 hys) (l.2.map fun k => PyData.int ((sizT (P.others.getD k []) : Nat) : Int)) (by simp) hD2 (by rw [List.length_map]; exact lt_line (by omega)) ?_ ?_⟩
    · intro i w e H3 hw he s3 Q' q'
      have s23 := s2.trans s3
      obtain ⟨k, hk1, rfl⟩ := map_at hw
      obtain ⟨k', hk2, rfl⟩ := map_at he
      rw [hk1] at hk2
      cases hk2
      refine ⟨rfl, _, rfl, p, C, dx, _, _, rfl, s23 _ _ h1, T.cl, T.na_sizes, flds_sizes _ _ _ _, _, _, _, _, rfl, rfl, sqT_mono s23 hsz, atI_nat (j := 1) rfl, _, rfl, _, _, _, _, rfl, rfl, sqL_mono s23 hz2, atI_nat (siz_at (hl4 k (List.mem_of_getElem? hk1))), q' _ _ (Same.refl _) (.int _)⟩
    intro H3 s3 d3
    have s23 := s2.trans s3
    refine ⟨D2, l.2.map fun k => ((sizT (P.others.getD k []) : Nat) : Int), rfl, sqL_of (by rw [List.map_map]; exact d3), ?_⟩
    -- greater
    refine ⟨_, rfl, ax, _, rfl, .inr (sqT_mono s23 hxs), _, rfl, ay, _, rfl, .inr (sqT_mono s23 hys), _, _, rfl, ?_⟩
    rw [List.length_map, List.length_map]
    -- the sum
    refine ⟨_, rfl, _, rfl, _, _, rfl, rfl, _, _, rfl, rfl, sml_mul okp.p2, _, rfl, _, rfl, _, rfl, _, _, rfl, rfl, _, rfl, _, _, rfl, rfl, sml_mul okp.p4, _, _, rfl, rfl, _, rfl, _, rfl, p, dx, _, rfl, s23 _ _ h1, no_hits _ _ _ _, _, rfl, _, rfl,
      p, _, _, P, l, rfl, okp, prAt_mono s23 hp, dp_up hx s23, dp_up hy s23, okl, fun H4 s4 => ⟨_, _, rfl, rfl, sml_mul okp.p5, _, _, rfl, rfl, ?_⟩⟩
    exact q H4 (s23.trans s4)
end
end Tk
namespace Tk
open PySem PySem.Spec PyProof.Rows L2
open SX (S)

section
variable {P : Program} {w : World} {K : PySem.W.Frag} {mg : Str → Option Value} {base : Heap} {C SH : Addr}

theorem sc_step_cost : FnScope ["self", "step", "cost", "ones", "others"] ["self", "step"] (defScope (metS 4)) := ⟨rfl, rfl, rfl, by decide +kernel, rfl, by decide +kernel, by decide +kernel⟩
theorem bn_step_cost : Bnd "step_cost" "Pricing.step_cost" (metS 4) ["self", "step"] := fun _ _ _ _ _ _ us hl => match us, hl with | [_, _], _ => rfl
theorem no_link (a b : Addr) (w pr : V) : (flds a b w pr).lookup ("link_cost" : Str) = none := flds_no a b w pr (by decide +kernel) (by decide +kernel) (by decide +kernel) (by decide +kernel)
theorem c_step_cost (T : Txt K mg C SH) : C8.Met P w K mg base 4 C "step_cost" (sp_step_cost K C) [] := by
  have c_link_cost : C8.Met P w K mg base 3 C "link_cost" (sp_link_cost K C) [] := Tk.c_link_cost T
  refine metD T.cl T.d_step_cost bn_step_cost sc_step_cost (fun vs H Q E h => by obtain ⟨_, _, _, _, rfl, _⟩ := h; rfl) (fun f cdv A outer s H vs Q E hr h => ?_)
  refine ⟨_, (pss_cons (ps_set (i := 2) sc_step_cost.nd rfl (Or.inl rfl) (pe_callB (cr_sumK K rfl rfl) (by rfl) T.sum (by decide +kernel) (pa_cons (pe_lc (own := [("ones", 3), ("others", 4)]) (tt := tYes) rfl sc_step_cost.nd (pi_tupK K rfl (pv 1)) (blkOk_by (N := ["self", "step", "cost", "ones", "others"]) (sc := defScope (metS 4)) (by decide +kernel)) (fun _ _ _ _ _ => by exact (pg_tupK K (n := 2) rfl rfl (pgs_cons (pg_name (i := 3) sc_step_cost.nd rfl (Or.inl rfl)) (pgs_cons (pg_name (i := 4) sc_step_cost.nd rfl (Or.inl rfl)) pgs_nil)))) (fun _ _ _ _ _ => by exact pts_nil) (fun _ _ _ _ _ => by exact (C8.pe_mt c_link_cost hr (by decide) (pv 0) (pa_cons (pv 3) (pa_cons (pv 4) pa_nil))))) pa_nil)))
    (pss_cons (ps_if (pt_cmpR op_eq (pe_callB (call_lenK K rfl) (by rfl) T.len (by decide +kernel) (pa_cons (pv 1) pa_nil)) pe_int (nomark _)) (pss_one (ps_aug (i := 2) sc_step_cost.nd rfl (Or.inl rfl) (pe_ix (ix_tupK K rfl) (pe_fldK K rfl (pv 0) (by rfl)) pe_int (fun _ _ => rfl)) ip_add)) pss_nil)
    (pss_one (ps_ret (pv 2))))), ?_⟩
  obtain ⟨p, x, P, st, rfl, okp, hp, hx, ⟨hs1, hs2⟩, q⟩ := h
  obtain ⟨dx, a, b, c1, c2, wv, pr, h1, h2, h3, h4, h5, h6, h7⟩ := id hp
  obtain ⟨ap, rfl, hpr⟩ := prs_tup h7
  obtain ⟨ax, xs, rfl, hxs, hds⟩ := dp_tup hx
  have hxl : xs.length = st.length := by rw [dpa_len hds, List.length_map]
  refine ⟨_, rfl, ax, rfl, ⟨_, hxs⟩, fun D hD => lcT_map (K := K) hxs (st.map fun l => PyData.int (lkC P l)) (by rw [List.length_map, hxl]) hD (by rw [hxl]; exact lt_line (by omega)) ?_ ?_⟩
  · intro i w e H2 hw he s2 Q' q'
    obtain ⟨d, hd1, hdw⟩ := dpa_of hds hw
    obtain ⟨l, hl, rfl⟩ := map_at hd1
    obtain ⟨l', hl', rfl⟩ := map_at he
    rw [hl] at hl'
    cases hl'
    obtain ⟨b', u, v, rfl, hb, hu, hv⟩ := dp_pair hdw
    refine ⟨b', _, rfl, sqT_mono s2 hb, rfl, _, _, rfl, _, _, rfl, rfl, rfl, ?_⟩
    exact ⟨_, rfl, p, dx, _, rfl, s2 _ _ h1, no_link _ _ _ _, _, rfl, _, rfl, p, u, v, P, l, rfl, okp, prAt_mono s2 hp, dp_up hu s2, dp_up hv s2, hs2 l (List.mem_of_getElem? hl), fun H3 s3 => q' _ _ s3 (.int _)⟩
  intro H2 s2 d2
  refine ⟨D, st.map (lkC P), rfl, sqL_of (by rw [List.map_map]; exact d2), ?_⟩
  refine ⟨_, rfl, ax, _, rfl, .inr (sqT_mono s2 hxs), rfl, _, rfl, ?_⟩
  unfold stC at q
  rw [hxl]
  by_cases h2 : st.length = 2
  · have e : decide (V.int (st.length : Int) = V.int 2) = true := decide_eq_true (by rw [h2]; rfl)
    rw [e]
    rw [if_pos h2] at q
    refine iteT ⟨_, rfl, _, rfl, p, C, dx, _, _, rfl, s2 _ _ h1, T.cl, T.na_prices, flds_prices _ _ _ _, _, _, _, _, rfl, rfl, sqT_mono s2 hpr, atI_nat (j := 2) rfl, _, _, rfl, rfl, ?_⟩
    exact ⟨_, rfl, q H2 s2⟩
  · have e : decide (V.int (st.length : Int) = V.int 2) = false := decide_eq_false (fun z => h2 (by injection z with z; omega))
    rw [e]
    rw [if_neg h2, Int.add_zero] at q
    exact iteF ⟨_, rfl, q H2 s2⟩
end
end Tk
namespace Tk
open PySem PySem.Spec PyProof.Rows L2
open SX (S)
/-! ### a list that grows -/
def Acc (K : PySem.W.Frag) (St : As) (H0 : Hp) (o : Addr) (H : Hp) (es : List PyData) : Prop := Kp St H0 H ∧ ∃ acc, H o = some (.lst acc) ∧ DpAll K (ex (uni (dm H0) (one o)) H) acc es
section
variable {K : PySem.W.Frag} {St : As} {H0 H H1 H' : Hp} {o : Addr} {es : List PyData}
theorem kp_mut (k : Kp St H0 H) (h0 : H0 o = none) {u : HO} : Kp St H0 (upd H o u) := by
  refine ⟨fun a v e h => ?_, fun a v h => ?_⟩
  · rw [upd_ne (ne_of_none h h0)]; exact k.1 a v e h
  · obtain ⟨v', h'⟩ := k.2 a v h
    exact ⟨v', by rw [upd_ne (ne_of_none h h0)]; exact h'⟩
theorem acc_new (k : Kp St H0 H) (ho : H o = none) : Acc K St H0 o (upd H o (.lst [])) [] := ⟨kp_mut k (k.free ho), [], upd_same, .nil⟩
theorem acc_le (hS : Le St (dm H0)) (h0 : H0 o = none) : St o = false := by
  cases e : St o with
  | false => rfl
  | true => exact absurd (hS o e) (by rw [dm_none h0]; exact Bool.false_ne_true)
theorem acc_kp (hS : Le St (dm H0)) (h0 : H0 o = none) (A : Acc K St H0 o H es) (k : Kp St H H1) : Acc K St H0 o H1 es := by
  obtain ⟨k0, acc, ha, hd⟩ := A
  exact ⟨k0.trans k, acc, k.1 o _ (acc_le hS h0) ha, dpa_up hd (k.mono (hS.trans (le_uniL _ _))).ex⟩
theorem acc_push (hS : Le St (dm H0)) (h0 : H0 o = none) (A : Acc K St H0 o H es) {acc : List V} (ha : H o = some (.lst acc)) (k : Kp St H H1) {v : V} {d : PyData} (hv : Dp K (nw H H1) v d) : Acc K St H0 o (upd H1 o (.lst (acc ++ [v]))) (es ++ [d]) := by
  obtain ⟨k0, acc', ha', hd⟩ := A
  rw [ha] at ha'
  cases ha'
  refine ⟨kp_mut (k0.trans k) h0, acc ++ [v], upd_same, ?_⟩
  rw [ex_upd (show uni (dm H0) (one o) o = true from le_uniR _ _ o (one_self o))]
  exact dpa_snoc (dpa_up hd (k.mono (hS.trans (le_uniL _ _))).ex) (dp_up hv (nw_le (le_uni k0.dm (le_one (dm_some ha)))))
theorem acc_len (A : Acc K St H0 o H es) {acc : List V} (ha : H o = some (.lst acc)) : acc.length = es.length := by
  obtain ⟨k0, acc', ha', hd⟩ := A
  rw [ha] at ha'
  cases ha'
  exact dpa_len hd
theorem acc_fin (h0 : H0 o = none) (A : Acc K St H0 o H es) : Dp K (nw H0 H) (.ref o) (.list es) := by
  obtain ⟨k0, acc, ha, hd⟩ := A
  exact .lst (nw_new h0 ha) (dpa_up hd (ex_le H (le_uniL _ _)))
theorem acc_dp (h0 : H0 o = none) (A : Acc K St H0 o H es) : Dp K H (.ref o) (.list es) := dp_up (acc_fin h0 A) (ex_same _ _)
/-- the list as a tuple: a new one -/
theorem acc_tup (h0 : H0 o = none) (A : Acc K St H0 o H es) {acc : List V} (ha : H o = some (.lst acc)) {p : Addr} (hp : H p = none) : Dp K (nw H0 (upd H p (.tup acc))) (.ref p) (.tuple es) := by
  obtain ⟨k0, acc', ha', hd⟩ := A
  rw [ha] at ha'
  cases ha'
  exact .tup (nw_newT (k0.free hp) upd_same) (dpa_up (dpa_up hd (ex_le H (le_uniL _ _))) (nw_ex (same_new hp)))
end
/-! ### new tuples -/
section
variable {K : PySem.W.Frag} {H H1 : Hp}
theorem dp_newT {p : Addr} {xs : List V} {ds : List PyData} (s : Same H H1) (hp : H1 p = none) (hd : DpAll K (nw H H1) xs ds) : Dp K (nw H (upd H1 p (.tup xs))) (.ref p) (.tuple ds) :=
  .tup (nw_newT (s.free hp) upd_same) (dpa_up hd (nw_ex (same_new hp)))
theorem intsN (K : PySem.W.Frag) (H : Hp) (ns : List Nat) : DpAll K H (ns.map fun (n : Nat) => V.int (n : Int)) (ns.map fun (n : Nat) => PyData.int (n : Int)) := by
  have e1 : (ns.map fun (n : Nat) => V.int (n : Int)) = (ns.map fun (n : Nat) => (n : Int)).map V.int := by rw [List.map_map]; rfl
  have e2 : (ns.map fun (n : Nat) => PyData.int (n : Int)) = (ns.map fun (n : Nat) => (n : Int)).map PyData.int := by rw [List.map_map]; rfl
  rw [e1, e2]
  exact ints_dp _
abbrev vN (ns : List Nat) : List V := ns.map fun (n : Nat) => V.int (n : Int)
/-- a link's three tuples -/
theorem dp_link {p1 p2 p3 : Addr} (a b : List Nat) (s : Same H H1) (h1 : H1 p1 = none) (h2 : (upd H1 p1 (.tup (vN a))) p2 = none) (h3 : (upd (upd H1 p1 (.tup (vN a))) p2 (.tup (vN b))) p3 = none) :
    Dp K (nw H (upd (upd (upd H1 p1 (.tup (vN a))) p2 (.tup (vN b))) p3 (.tup [.ref p1, .ref p2]))) (.ref p3) (lkD (a, b)) := by
  have s1 := s.trans (same_new (o := .tup (vN a)) h1)
  have s2 := s1.trans (same_new (o := .tup (vN b)) h2)
  refine dp_newT s2 h3 (.cons ?_ (.cons ?_ .nil))
  · exact dp_up (dp_newT s h1 (intsN K _ a)) (nw_ex (same_new h2))
  · exact dp_newT s1 h2 (intsN K _ b)
end
theorem rgV_N (i k : Nat) : rgV (i : Int) ((i : Int) + (k : Int)) = vN ((List.range k).map (i + ·)) := by
  unfold rgV vN
  rw [show ((i : Int) + (k : Int) - (i : Int)).toNat = k by omega, List.map_map]
  apply List.map_congr_left
  intro a _
  show V.int ((i : Int) + (a : Int)) = V.int (((i + a : Nat) : Nat) : Int)
  rw [Int.natCast_add]
theorem rgOk_N {i k : Nat} (h : i ≤ 1000) (h2 : k ≤ 1000) : RgOk (i : Int) ((i : Int) + (k : Int)) := RgOk.of_le (by omega) (by omega) (by omega) (by omega)

/-! ### steps: what they are -/
inductive IsStp (i j m n : Nat) : Stp → Prop where
  | left : i < m → IsStp i j m n [([i], [])]
  | right : j < n → IsStp i j m n [([], [j])]
  | pair (p : Nat × Nat) : p ∈ SHP → i + p.1 ≤ m → j + p.2 ≤ n → IsStp i j m n [((List.range p.1).map (i + ·), (List.range p.2).map (j + ·))]
  | cross : i + 2 ≤ m → j + 2 ≤ n → IsStp i j m n [([i], [j + 1]), ([i + 1], [j])]
theorem mem_stpP {i j m n : Nat} {s : Stp} : s ∈ stpP i j m n ↔ IsStp i j m n s := by
  unfold stpP
  rw [List.mem_append, List.mem_append, List.mem_append]
  constructor
  · rintro (((h | h) | h) | h)
    · split at h
      · rename_i hi
        rw [List.mem_singleton.mp h]; exact .left hi
      · exact absurd h List.not_mem_nil
    · split at h
      · rename_i hi
        rw [List.mem_singleton.mp h]; exact .right hi
      · exact absurd h List.not_mem_nil
    · obtain ⟨p, hp, h⟩ := List.mem_flatMap.mp h
      split at h
      · rename_i hi
        rw [List.mem_singleton.mp h]; exact .pair p hp hi.1 hi.2
      · exact absurd h List.not_mem_nil
    · split at h
      · rename_i hi
        rw [List.mem_singleton.mp h]; exact .cross hi.1 hi.2
      · exact absurd h List.not_mem_nil
  · intro h
    cases h with
    | left h => exact .inl (.inl (.inl (by rw [if_pos h]; exact List.mem_singleton.mpr rfl)))
    | right h => exact .inl (.inl (.inr (by rw [if_pos h]; exact List.mem_singleton.mpr rfl)))
    | pair p hp h1 h2 => exact .inl (.inr (List.mem_flatMap.mpr ⟨p, hp, by rw [if_pos ⟨h1, h2⟩]; exact List.mem_singleton.mpr rfl⟩))
    | cross h1 h2 => exact .inr (by rw [if_pos ⟨h1, h2⟩]; exact List.mem_singleton.mpr rfl)
theorem shp_pos {p : Nat × Nat} (h : p ∈ SHP) : 1 ≤ p.1 ∧ 1 ≤ p.2 ∧ p.1 ≤ 3 ∧ p.2 ≤ 3 := by
  unfold SHP at h
  simp only [List.mem_cons, List.not_mem_nil, or_false] at h
  rcases h with h | h | h | h | h <;> rw [h] <;> decide
theorem endP_le {i j m n : Nat} {s : Stp} (h : s ∈ stpP i j m n) (hi : i ≤ m) (hj : j ≤ n) : i ≤ (endP s i j).1 ∧ (endP s i j).1 ≤ m ∧ j ≤ (endP s i j).2 ∧ (endP s i j).2 ≤ n ∧ i + j < (endP s i j).1 + (endP s i j).2 := by
  unfold endP
  cases mem_stpP.mp h with
  | left h => simp; omega
  | right h => simp; omega
  | pair p hp h1 h2 => have := shp_pos hp; simp; omega
  | cross h1 h2 => simp; omega
theorem stp_len {i j m n : Nat} {s : Stp} (h : s ∈ stpP i j m n) : 1 ≤ s.length ∧ s.length ≤ 2 := by
  cases mem_stpP.mp h <;> simp
theorem stp_ok {P : Prc} {i j m n : Nat} {s : Stp} (h : s ∈ stpP i j m n) (hm : m ≤ P.ones.length) (hn : n ≤ P.others.length) : okS P s := by
  refine ⟨(stp_len h).2, ?_⟩
  cases mem_stpP.mp h with
  | left h => intro l hl; rw [List.mem_singleton.mp hl]; exact ⟨by simp, by simp, by simp; omega, by simp⟩
  | right h => intro l hl; rw [List.mem_singleton.mp hl]; exact ⟨by simp, by simp, by simp, by simp; omega⟩
  | pair p hp h1 h2 =>
    have := shp_pos hp
    intro l hl; rw [List.mem_singleton.mp hl]
    exact ⟨by simp; omega, by simp; omega, by simp; omega, by simp; omega⟩
  | cross h1 h2 =>
    intro l hl
    simp only [List.mem_cons, List.not_mem_nil, or_false] at hl
    rcases hl with hl | hl <;> rw [hl] <;> exact ⟨by simp, by simp, by simp; omega, by simp; omega⟩
theorem stpP_len (i j m n : Nat) : (stpP i j m n).length ≤ 8 := by
  unfold stpP SHP
  simp only [List.flatMap_cons, List.flatMap_nil, List.length_append, List.append_nil]
  repeat' split
  all_goals simp
theorem stpP_nil {i j m n : Nat} (h : stpP i j m n = []) (hi : i ≤ m) (hj : j ≤ n) : i = m ∧ j = n := by
  constructor
  · refine Nat.le_antisymm hi (Nat.le_of_not_lt fun hlt => ?_)
    have := mem_stpP.mpr (IsStp.left (j := j) (n := n) hlt)
    rw [h] at this
    exact absurd this List.not_mem_nil
  · refine Nat.le_antisymm hj (Nat.le_of_not_lt fun hlt => ?_)
    have := mem_stpP.mpr (IsStp.right (i := i) (m := m) hlt)
    rw [h] at this
    exact absurd this List.not_mem_nil

/-! ### grids -/
def gv (g : List (List Int)) (i j : Nat) : Int := (g.getD i []).getD j 0
structure Grd (m n : Nat) (g : List (List Int)) : Prop where
  rows : g.length = m + 1
  cols : ∀ r ∈ g, r.length = n + 1
def gD (g : List (List Int)) : PyData := .list (g.map fun r => .list (r.map .int))
def pD (g : List (List Int)) : PyData := .tuple (g.map fun r => .tuple (r.map .int))
structure Best (P : Prc) (m n : Nat) (f : Nat → Nat → Int) (i j : Nat) : Prop where
  le : ∀ s ∈ stpP i j m n, f i j ≤ stC P s + f (endP s i j).1 (endP s i j).2
  eq : (stpP i j m n = [] ∧ f i j = 0) ∨ ∃ s ∈ stpP i j m n, f i j = stC P s + f (endP s i j).1 (endP s i j).2
structure GridOk (P : Prc) (m n : Nat) (g : List (List Int)) : Prop where
  gr : Grd m n g
  b : ∀ i j, i ≤ m → j ≤ n → Best P m n (gv g) i j
def wayD (w : List Stp) : PyData := .tuple (w.map stD)
def wayC (P : Prc) (w : List Stp) : Int := (w.map (stC P)).sum
def Path (m n : Nat) : Nat → Nat → List Stp → Prop
  | i, j, [] => i = m ∧ j = n
  | i, j, s :: r => s ∈ stpP i j m n ∧ Path m n (endP s i j).1 (endP s i j).2 r
def tolD (c : Int) (w : List Stp) (p : List (List Int)) : PyData := .tuple [.int c, wayD w, pD p]
def papr (g : List (List Int)) : List (List Int) := g.map fun r => r.map fun x => gv g 0 0 - x

/-! ### the promises -/
def sp_cost_on (K : PySem.W.Frag) (C : Addr) : Sp := fun vs H Q _ => ∃ (p : Addr) (vr vst : V) (P : Prc) (g : List (List Int)) (s : Stp) (i j m n : Nat), vs = [.ref p, vr, vst, .int (i : Int), .int (j : Int)] ∧ okP P ∧ PrAt K C H p P ∧ Dp K H vr (gD g) ∧ Grd m n g ∧ Dp K H vst (stD s) ∧ okS P s ∧
  (endP s i j).1 ≤ m ∧ (endP s i j).2 ≤ n ∧ RetF (.int (stC P s + gv g (endP s i j).1 (endP s i j).2)) H Q
def sp_costs_left (K : PySem.W.Frag) (C : Addr) : Sp := fun vs H Q _ => ∃ (p : Addr) (P : Prc) (m n : Nat), vs = [.ref p, .int (m : Int), .int (n : Int)] ∧ okP P ∧ PrAt K C H p P ∧ m = P.ones.length ∧ n = P.others.length ∧
  ∀ g v H', GridOk P m n g → Same H H' → Dp K (nw H H') v (gD g) → Q v H'
def sp_first_way (K : PySem.W.Frag) (C : Addr) : Sp := fun vs H Q _ => ∃ (p : Addr) (vr : V) (P : Prc) (g : List (List Int)) (m n : Nat), vs = [.ref p, vr, .int (m : Int), .int (n : Int)] ∧ okP P ∧ PrAt K C H p P ∧ m = P.ones.length ∧ n = P.others.length ∧ Dp K H vr (gD g) ∧ GridOk P m n g ∧
  ∀ w v H', Path m n 0 0 w → wayC P w = gv g 0 0 → Same H H' → Dp K (nw H H') v (wayD w) → Q v H'
def sp_least_way (K : PySem.W.Frag) (C : Addr) : Sp := fun vs H Q _ => ∃ (a b w pr : V) (P : Prc), vs = [a, b, w, pr] ∧ okP P ∧ Dp K H a (txsD P.ones) ∧ Dp K H b (txsD P.others) ∧ Dp K H w (knD P) ∧ Dp K H pr (prsD P) ∧
  ∀ g way v H', GridOk P P.ones.length P.others.length g → Path P.ones.length P.others.length 0 0 way → wayC P way = gv g 0 0 → Same H H' → Dp K (nw H H') v (tolD (gv g 0 0) way (papr g)) → Q v H'
end Tk
namespace Tk
open PySem PySem.Spec PyProof.Rows L2
open SX (S)

section
variable {P : Program} {w : World} {K : PySem.W.Frag} {mg : Str → Option Value} {base : Heap} {C SH : Addr}

theorem sc_steps_from : FnScope ["i", "j", "m", "n", "some", "many", "more"] ["i", "j", "m", "n"] (defScope (topS 13)) := ⟨rfl, rfl, rfl, by decide +kernel, rfl, by decide +kernel, by decide +kernel⟩
theorem bn_steps_from : Bnd "steps_from" "steps_from" (topS 13) ["i", "j", "m", "n"] := fun _ _ _ _ _ _ us hl => match us, hl with | [_, _, _, _], _ => rfl
theorem acc_s1 {K : PySem.W.Frag} {H0 H : Hp} {o : Addr} {es : List PyData} (h0 : H0 o = none) (A : Acc K S0 H0 o H es) {acc : List V} (ha : H o = some (.lst acc)) {va vb : List V} (a b : List Nat) (ea : va = vN a) (eb : vb = vN b) {p1 p2 p3 p4 : Addr}
    (h1 : H p1 = none) (h2 : (upd H p1 (.tup va)) p2 = none) (h3 : (upd (upd H p1 (.tup va)) p2 (.tup vb)) p3 = none) (h4 : (upd (upd (upd H p1 (.tup va)) p2 (.tup vb)) p3 (.tup [.ref p1, .ref p2])) p4 = none) :
    (upd (upd (upd (upd H p1 (.tup va)) p2 (.tup vb)) p3 (.tup [.ref p1, .ref p2])) p4 (.tup [.ref p3])) o = some (.lst acc) ∧
    Acc K S0 H0 o (upd (upd (upd (upd (upd H p1 (.tup va)) p2 (.tup vb)) p3 (.tup [.ref p1, .ref p2])) p4 (.tup [.ref p3])) o (.lst (acc ++ [.ref p4]))) (es ++ [stD [(a, b)]]) := by
  subst ea eb
  have s3 := ((same_new (o := .tup (vN a)) h1).trans (same_new (o := .tup (vN b)) h2)).trans (same_new (o := .tup [.ref p1, .ref p2]) h3)
  have s4 := s3.trans (same_new (o := .tup [.ref p3]) h4)
  refine ⟨s4 _ _ ha, acc_push (le_S0 _) h0 A ha (.of s4) (dp_newT s3 h4 (dpa_one (dp_link a b (Same.refl _) h1 h2 h3)))⟩
theorem acc_s2 {K : PySem.W.Frag} {H0 H : Hp} {o : Addr} {es : List PyData} (h0 : H0 o = none) (A : Acc K S0 H0 o H es) {acc : List V} (ha : H o = some (.lst acc)) (a b c d : List Nat) {p1 p2 p3 p4 p5 p6 p7 : Addr} {H3 H6 : Hp} (e3 : H3 = upd (upd (upd H p1 (.tup (vN a))) p2 (.tup (vN b))) p3 (.tup [.ref p1, .ref p2]))
    (e6 : H6 = upd (upd (upd H3 p4 (.tup (vN c))) p5 (.tup (vN d))) p6 (.tup [.ref p4, .ref p5]))
    (h1 : H p1 = none) (h2 : (upd H p1 (.tup (vN a))) p2 = none) (h3 : (upd (upd H p1 (.tup (vN a))) p2 (.tup (vN b))) p3 = none)
    (h4 : H3 p4 = none) (h5 : (upd H3 p4 (.tup (vN c))) p5 = none) (h6 : (upd (upd H3 p4 (.tup (vN c))) p5 (.tup (vN d))) p6 = none) (h7 : H6 p7 = none) :
    (upd H6 p7 (.tup [.ref p3, .ref p6])) o = some (.lst acc) ∧ Acc K S0 H0 o (upd (upd H6 p7 (.tup [.ref p3, .ref p6])) o (.lst (acc ++ [.ref p7]))) (es ++ [stD [(a, b), (c, d)]]) := by
  have s3 : Same H H3 := by rw [e3]; exact ((same_new h1).trans (same_new h2)).trans (same_new h3)
  have s6 : Same H3 H6 := by rw [e6]; exact ((same_new h4).trans (same_new h5)).trans (same_new h6)
  have s7 := (s3.trans s6).trans (same_new (o := .tup [.ref p3, .ref p6]) h7)
  refine ⟨s7 _ _ ha, acc_push (le_S0 _) h0 A ha (.of s7) (dp_newT (s3.trans s6) h7 (.cons ?_ (dpa_one ?_)))⟩
  · refine dp_up ?_ (nw_ex s6)
    rw [e3]
    exact dp_link a b (Same.refl _) h1 h2 h3
  · have d6 : Dp K (nw H3 H6) (.ref p6) (lkD (c, d)) := by
      rw [e6]; exact dp_link c d (Same.refl _) h4 h5 h6
    exact dp_up d6 (nw_nw (same_dm s3))
theorem acc_go {K : PySem.W.Frag} {H0 H : Hp} {o : Addr} {es es' : List PyData} (A : Acc K S0 H0 o H es) (e : es = es') : Acc K S0 H0 o H es' := e ▸ A
def shpS (i j m n : Nat) (p : Nat × Nat) : List Stp := if i + p.1 ≤ m ∧ j + p.2 ≤ n then [[((List.range p.1).map (i + ·), (List.range p.2).map (j + ·))]] else []
theorem flat_take {α β : Type} {f : α → List β} {l : List α} {k : Nat} {x : α} (h : l[k]? = some x) : (l.take (k + 1)).flatMap f = (l.take k).flatMap f ++ f x := by
  rw [take_at h, List.flatMap_append]
  simp
def stpA (i j m n k : Nat) : List Stp := (if i < m then [[([i], [])]] else []) ++ (if j < n then [[([], [j])]] else []) ++ (SHP.take k).flatMap (shpS i j m n)
theorem stpA_len (i j m n k : Nat) : (stpA i j m n k).length ≤ 7 := by
  unfold stpA shpS
  have : ((SHP.take k).flatMap (shpS i j m n)).length ≤ 5 := by
    have h1 : ∀ l : List (Nat × Nat), (l.flatMap (shpS i j m n)).length ≤ l.length := by
      intro l
      induction l with
      | nil => simp
      | cons p l ih =>
        rw [List.flatMap_cons, List.length_append, List.length_cons]
        have : (shpS i j m n p).length ≤ 1 := by
          unfold shpS
          split <;> simp
        omega
    refine Nat.le_trans (h1 _) ?_
    rw [List.length_take]
    exact Nat.min_le_right _ _
  simp only [List.length_append]
  have h1 : (if i < m then [[([i], ([] : List Nat))]] else []).length ≤ 1 := by split <;> simp
  have h2 : (if j < n then [[(([] : List Nat), [j])]] else []).length ≤ 1 := by split <;> simp
  have h3 := this
  unfold shpS at h3
  omega
theorem ite_join {c : Bool} {R : Hp → Prop} {H1 : Hp} {A : Prop} (I : Hp → Prop) (hk : ∀ H', I H' → R H') (hf : c = false → I H1) (ht : c = true → (∀ H', I H' → R H') → A) : if c = true then A else R H1 := by
  cases c with
  | true => exact iteT (ht rfl hk)
  | false => exact iteF (hk _ (hf rfl))
theorem and2_go {σ : L2.St} {H : Hp} {a b : Bool} {ta tb : TT} {Q : Bool → Hp → Prop} (ha : ∀ Q : Bool → Hp → Prop, Q a H → ta σ H Q) (hb : ∀ Q : Bool → Hp → Prop, Q b H → tb σ H Q) (h : Q (a && b) H) : tAnd ta tb σ H Q := by
  refine ha _ ?_
  cases a
  · exact iteF h
  · exact iteT (hb _ h)
theorem shp_dp {C SH : Addr} {K : PySem.W.Frag} {mg : Str → Option Value} (T : Txt K mg C SH) : ∃ xs, (∀ H, SqT K H SH xs) ∧ ∀ H, DpAll K H xs (SHP.map prD2) := by
  obtain ⟨a, xs, e, hs, hd⟩ := dp_tup (T.shapes fun _ => none)
  cases e
  exact ⟨xs, fun H => sqT_mono (fun _ _ h => by cases h) hs, fun H => dpa_up hd (fun _ _ h => by cases h)⟩
theorem c_steps_from (T : Txt K mg C SH) : C8.Cal P w K mg base 1 "steps_from" (sp_steps_from K C) [] := by
  refine calD T.d_steps_from bn_steps_from sc_steps_from (fun vs H Q E h => by obtain ⟨_, _, _, _, rfl, _⟩ := h; rfl) (fun f cdv A outer s H vs Q E hr h => ?_)
  refine ⟨_, (pss_cons (ps_set (i := 4) sc_steps_from.nd rfl (Or.inl rfl) (pe_lst pa_nil))
    (pss_cons (ps_if (pt_cmpR op_lt (pv 0) (pv 2) (nomark _)) (pss_one (ps_expr (pe_bm PySem.F.plainAttrs_list PySem.F.slot_list_append PySem.F.type_list_append mt_append (pv 4) (pa_cons (pe_tup (pa_cons (pe_tup (pa_cons (pe_tup (pa_cons (pv 0) pa_nil)) (pa_cons (pe_tup pa_nil) pa_nil))) pa_nil)) pa_nil)))) pss_nil)
    (pss_cons (ps_if (pt_cmpR op_lt (pv 1) (pv 3) (nomark _)) (pss_one (ps_expr (pe_bm PySem.F.plainAttrs_list PySem.F.slot_list_append PySem.F.type_list_append mt_append (pv 4) (pa_cons (pe_tup (pa_cons (pe_tup (pa_cons (pe_tup pa_nil) (pa_cons (pe_tup (pa_cons (pv 1) pa_nil)) pa_nil))) pa_nil)) pa_nil)))) pss_nil)
    (pss_cons (ps_for PassesOwn.never rfl (pi_tupK K rfl (C8.pe_gc (by rfl) T.gSHAPES)) (pg_tupK K (n := 2) rfl rfl (pgs_cons (pg_name (i := 5) sc_steps_from.nd rfl (Or.inl rfl)) (pgs_cons (pg_name (i := 6) sc_steps_from.nd rfl (Or.inl rfl)) pgs_nil)))
      (pss_one (ps_if (PW.pt (pw_and (pt_cmpR op_le (pe_op op_add (pv 0) (pv 5)) (pv 2) (nomark _)) (pw_and1 (pt_cmpR op_le (pe_op op_add (pv 1) (pv 6)) (pv 3) (nomark _))))) (pss_one (ps_expr (pe_bm PySem.F.plainAttrs_list PySem.F.slot_list_append PySem.F.type_list_append mt_append (pv 4) (pa_cons (pe_tup (pa_cons (pe_tup (pa_cons (pe_tupRg rfl (by rfl) T.tuple (prg_2 (by rfl) T.range (pv 0) (pe_op op_add (pv 0) (pv 5)))) (pa_cons (pe_tupRg rfl (by rfl) T.tuple (prg_2 (by rfl) T.range (pv 1) (pe_op op_add (pv 1) (pv 6)))) pa_nil))) pa_nil)) pa_nil)))) pss_nil)))
    (pss_cons (ps_if (PW.pt (pw_and (pt_cmpR op_le (pe_op op_add (pv 0) pe_int) (pv 2) (nomark _)) (pw_and1 (pt_cmpR op_le (pe_op op_add (pv 1) pe_int) (pv 3) (nomark _))))) (pss_one (ps_expr (pe_bm PySem.F.plainAttrs_list PySem.F.slot_list_append PySem.F.type_list_append mt_append (pv 4) (pa_cons (pe_tup (pa_cons (pe_tup (pa_cons (pe_tup (pa_cons (pv 0) pa_nil)) (pa_cons (pe_tup (pa_cons (pe_op op_add (pv 1) pe_int) pa_nil)) pa_nil))) (pa_cons (pe_tup (pa_cons (pe_tup (pa_cons (pe_op op_add (pv 0) pe_int) pa_nil)) (pa_cons (pe_tup (pa_cons (pv 1) pa_nil)) pa_nil))) pa_nil))) pa_nil)))) pss_nil)
    (pss_one (ps_ret (pv 4)))))))), ?_⟩
  obtain ⟨i, j, m, n, rfl, hm, hn, q⟩ := h
  refine ⟨le_line (by simp), fun o ho => ?_⟩
  have A0 : Acc K S0 H o (upd H o (.lst [])) [] := acc_new (Kp.refl _ _) ho
  have lnA : ∀ {H' : Hp} {es : List Stp} {acc : List V}, Acc K S0 H o H' (es.map stD) → es.length ≤ 8 → H' o = some (.lst acc) → acc.length < sizeLine := by
    intro H' es acc A l ha
    have := acc_len A ha
    rw [List.length_map] at this
    exact lt_line (by omega)
  generalize upd H o (.lst []) = H1 at A0
  refine ⟨_, rfl, _, rfl, _, _, rfl, rfl, _, rfl, ?_⟩
  dsimp only
  refine ite_join (fun H' => Acc K S0 H o H' ((if i < m then [[([i], [])]] else []).map stD)) ?_ (fun e => acc_go A0 (by rw [if_neg (fun z => by rw [decide_eq_false_iff_not] at e; omega)]; rfl)) (fun e hk => ?_)
  rotate_left
  · have hi : i < m := by rw [decide_eq_true_eq] at e; omega
    obtain ⟨acc, ha, hd⟩ := id A0.2
    refine ⟨_, rfl, .inl ⟨rfl, _, SqL.of ha⟩, _, rfl, le_line (by simp), fun p1 h1 => ⟨le_line (by simp), fun p2 h2 => ⟨le_line (by simp), fun p3 h3 => ⟨le_line (by simp), fun p4 h4 => ?_⟩⟩⟩⟩
    obtain ⟨hb, A1⟩ := acc_s1 ho A0 ha [i] [] rfl rfl h1 h2 h3 h4
    refine ⟨o, _, _, rfl, rfl, hb, lnA (es := []) A0 (by decide) ha, hk _ (acc_go A1 (by rw [if_pos hi]; rfl))⟩
  intro H2 A2
  refine ⟨_, rfl, _, rfl, _, _, rfl, rfl, _, rfl, ?_⟩
  dsimp only
  refine ite_join (fun H' => Acc K S0 H o H' ((stpA i j m n 0).map stD)) ?_ (fun e => acc_go A2 (by unfold stpA; rw [if_neg (c := j < n) (fun z => by rw [decide_eq_false_iff_not] at e; omega)]; simp)) (fun e hk => ?_)
  rotate_left
  · have hj : j < n := by rw [decide_eq_true_eq] at e; omega
    obtain ⟨acc, ha, hd⟩ := id A2.2
    refine ⟨_, rfl, .inl ⟨rfl, _, SqL.of ha⟩, le_line (by simp), fun p1 h1 => ⟨_, rfl, le_line (by simp), fun p2 h2 => ⟨le_line (by simp), fun p3 h3 => ⟨le_line (by simp), fun p4 h4 => ?_⟩⟩⟩⟩
    obtain ⟨hb, A1⟩ := acc_s1 ho A2 ha [] [j] rfl rfl h1 h2 h3 h4
    refine ⟨o, _, _, rfl, rfl, hb, lnA A2 (by split <;> simp) ha, hk _ (acc_go A1 (by unfold stpA; rw [if_pos hj]; simp))⟩
  intro H3 A3
  obtain ⟨xs, hs, hds⟩ := shp_dp T
  have hxl : xs.length = 5 := by rw [dpa_len (hds H)]; rfl
  refine ⟨SH, rfl, ⟨_, hs _⟩, for_tup (K := K) (a := SH) (xs := xs) (fun k σ H' => ∃ y5 y6, σ = [some (.int (i : Int)), some (.int (j : Int)), some (.int (m : Int)), some (.int (n : Int)), some (.ref o), y5, y6] ∧ Acc K S0 H o H' ((stpA i j m n k).map stD))
    ⟨none, none, rfl, A3⟩ (fun k σ H' _ _ => hs _) ?_ ?_⟩
  · rintro k x σ H' hx ⟨y5, y6, rfl, A⟩
    obtain ⟨d, hd1, hdx⟩ := dpa_of (hds H') hx
    obtain ⟨p, hp, rfl⟩ := map_at hd1
    obtain ⟨b, u, v, rfl, hb, hu, hv⟩ := dp_pair hdx
    have eu := dp_int hu
    have ev := dp_int hv
    subst eu ev
    have hpos := shp_pos (List.mem_of_getElem? hp)
    refine ⟨b, _, rfl, hb, rfl, _, _, rfl, _, _, rfl, rfl, ?_⟩
    have eA : stpA i j m n (k + 1) = stpA i j m n k ++ shpS i j m n p := by
      unfold stpA
      rw [flat_take hp]
      simp only [List.append_assoc]
    refine and2_go (a := decide ((i : Int) + (p.1 : Int) ≤ (m : Int))) (b := decide ((j : Int) + (p.2 : Int) ≤ (n : Int))) (fun Q q => ⟨_, rfl, _, rfl, _, _, rfl, rfl, _, rfl, _, _, rfl, rfl, _, rfl, q⟩) (fun Q q => ⟨_, rfl, _, rfl, _, _, rfl, rfl, _, rfl, _, _, rfl, rfl, _, rfl, q⟩) ?_
    by_cases hc : i + p.1 ≤ m ∧ j + p.2 ≤ n
    · rw [show (decide ((i : Int) + (p.1 : Int) ≤ (m : Int)) && decide ((j : Int) + (p.2 : Int) ≤ (n : Int))) = true from by rw [Bool.and_eq_true, decide_eq_true_eq, decide_eq_true_eq]; omega]
      obtain ⟨acc, ha, hd⟩ := id A.2
      refine iteT ⟨_, rfl, .inl ⟨rfl, _, SqL.of ha⟩, _, rfl, _, rfl, _, rfl, _, _, rfl, rfl, _, _, rfl, rfl, rgOk_N (by omega) (by omega), fun p1 h1 => ⟨_, rfl, _, rfl, _, rfl, _, _, rfl, rfl, _, _, rfl, rfl, rgOk_N (by omega) (by omega), fun p2 h2 => ⟨le_line (by simp), fun p3 h3 => ⟨le_line (by simp), fun p4 h4 => ?_⟩⟩⟩⟩
      obtain ⟨hb, A1⟩ := acc_s1 ho A ha ((List.range p.1).map (i + ·)) ((List.range p.2).map (j + ·)) (rgV_N i p.1) (rgV_N j p.2) h1 h2 h3 h4
      refine ⟨o, _, _, rfl, rfl, hb, lnA A (Nat.le_succ_of_le (stpA_len _ _ _ _ _)) ha, _, _, rfl, acc_go A1 ?_⟩
      rw [eA]
      unfold shpS
      rw [if_pos hc, List.map_append]
      rfl
    · rw [show (decide ((i : Int) + (p.1 : Int) ≤ (m : Int)) && decide ((j : Int) + (p.2 : Int) ≤ (n : Int))) = false from by rw [Bool.and_eq_false_iff, decide_eq_false_iff_not, decide_eq_false_iff_not]; omega]
      refine iteF ⟨_, _, rfl, acc_go A ?_⟩
      rw [eA]
      unfold shpS
      rw [if_neg hc, List.append_nil]
  · rintro σ H' ⟨y5, y6, rfl, A⟩
    rw [hxl] at A
    have fin : ∀ H4, Acc K S0 H o H4 ((stpP i j m n).map stD) → Q (.ref o) H4 := fun H4 A4 => q _ _ A4.1.same (acc_fin ho A4)
    have eP : stpP i j m n = stpA i j m n 5 ++ if i + 2 ≤ m ∧ j + 2 ≤ n then [[([i], [j + 1]), ([i + 1], [j])]] else [] := rfl
    dsimp only
    refine and2_go (a := decide ((i : Int) + 2 ≤ (m : Int))) (b := decide ((j : Int) + 2 ≤ (n : Int))) (fun Q q => ⟨_, rfl, _, _, rfl, rfl, _, rfl, _, _, rfl, rfl, _, rfl, q⟩) (fun Q q => ⟨_, rfl, _, _, rfl, rfl, _, rfl, _, _, rfl, rfl, _, rfl, q⟩) ?_
    by_cases hc : i + 2 ≤ m ∧ j + 2 ≤ n
    · rw [show (decide ((i : Int) + 2 ≤ (m : Int)) && decide ((j : Int) + 2 ≤ (n : Int))) = true from by rw [Bool.and_eq_true, decide_eq_true_eq, decide_eq_true_eq]; omega]
      obtain ⟨acc, ha, hd⟩ := id A.2
      refine iteT ⟨_, rfl, .inl ⟨rfl, _, SqL.of ha⟩, _, rfl, le_line (by simp), fun p1 h1 => ⟨_, rfl, _, _, rfl, rfl, le_line (by simp), fun p2 h2 => ⟨le_line (by simp), fun p3 h3 => ⟨_, rfl, _, _, rfl, rfl, le_line (by simp), fun p4 h4 => ⟨_, rfl, le_line (by simp), fun p5 h5 => ⟨le_line (by simp), fun p6 h6 => ⟨le_line (by simp), fun p7 h7 => ?_⟩⟩⟩⟩⟩⟩⟩
      obtain ⟨hb, A1⟩ := acc_s2 ho A ha [i] [j + 1] [i + 1] [j] rfl rfl h1 h2 h3 h4 h5 h6 h7
      refine ⟨o, _, _, rfl, rfl, hb, lnA A (Nat.le_succ_of_le (stpA_len _ _ _ _ _)) ha, _, rfl, fin _ (acc_go A1 ?_)⟩
      rw [eP, if_pos hc, List.map_append]
      rfl
    · rw [show (decide ((i : Int) + 2 ≤ (m : Int)) && decide ((j : Int) + 2 ≤ (n : Int))) = false from by rw [Bool.and_eq_false_iff, decide_eq_false_iff_not, decide_eq_false_iff_not]; omega]
      refine iteF ⟨_, rfl, fin _ (acc_go A ?_)⟩
      rw [eP, if_neg hc, List.append_nil]
end
end Tk
namespace Tk
open PySem PySem.Spec PyProof.Rows L2
open SX (S)

section
variable {P : Program} {w : World} {K : PySem.W.Frag} {mg : Str → Option Value} {base : Heap} {C SH : Addr}

theorem sc_ends_at : FnScope ["step", "i", "j", "ones", "others"] ["step", "i", "j"] (defScope (topS 14)) := ⟨rfl, rfl, rfl, by decide +kernel, rfl, by decide +kernel, by decide +kernel⟩
theorem bn_ends_at : Bnd "ends_at" "ends_at" (topS 14) ["step", "i", "j"] := fun _ _ _ _ _ _ us hl => match us, hl with | [_, _, _], _ => rfl
theorem endP_snoc {st : Stp} {t : Nat} {l : Lk} (h : st[t]? = some l) (i j : Nat) : endP (st.take (t + 1)) i j = ((endP (st.take t) i j).1 + l.1.length, (endP (st.take t) i j).2 + l.2.length) := by
  unfold endP
  rw [List.take_add_one, h]
  simp [Nat.add_assoc]
theorem c_ends_at (T : Txt K mg C SH) : C8.Cal P w K mg base 1 "ends_at" (sp_ends_at K C) [] := by
  refine calD T.d_ends_at bn_ends_at sc_ends_at (fun vs H Q E h => by obtain ⟨_, _, _, _, rfl, _⟩ := h; rfl) (fun f cdv A outer s H vs Q E hr h => ?_)
  refine ⟨_, (pss_cons (ps_for PassesOwn.never rfl (pi_tupK K rfl (pv 0)) (pg_tupK K (n := 2) rfl rfl (pgs_cons (pg_name (i := 3) sc_ends_at.nd rfl (Or.inl rfl)) (pgs_cons (pg_name (i := 4) sc_ends_at.nd rfl (Or.inl rfl)) pgs_nil)))
      (pss_cons (ps_aug (i := 1) sc_ends_at.nd rfl (Or.inl rfl) (pe_callB (call_lenK K rfl) (by rfl) T.len (by decide +kernel) (pa_cons (pv 3) pa_nil)) ip_add)
      (pss_one (ps_aug (i := 2) sc_ends_at.nd rfl (Or.inl rfl) (pe_callB (call_lenK K rfl) (by rfl) T.len (by decide +kernel) (pa_cons (pv 4) pa_nil)) ip_add))))
    (pss_one (ps_ret (pe_tup (pa_cons (pv 1) (pa_cons (pv 2) pa_nil)))))), ?_⟩
  obtain ⟨v, st, i, j, rfl, hd, hlen, q⟩ := h
  obtain ⟨a, xs, rfl, hs, hds⟩ := dp_tup hd
  have hxl : xs.length = st.length := by rw [dpa_len hds, List.length_map]
  refine ⟨_, rfl, a, rfl, ⟨_, hs⟩, for_tup (K := K) (a := a) (xs := xs) (fun t σ H' => ∃ y3 y4, σ = [some (.ref a), some (.int ((endP (st.take t) i j).1 : Int)), some (.int ((endP (st.take t) i j).2 : Int)), y3, y4] ∧ Same H H')
    ⟨none, none, rfl, Same.refl _⟩ (fun t σ H' _ ⟨_, _, _, s⟩ => sqT_mono s hs) ?_ ?_⟩
  · rintro t x σ H' hx ⟨y3, y4, rfl, s⟩
    obtain ⟨d, hd1, hdx⟩ := dpa_of hds hx
    obtain ⟨l, hl, rfl⟩ := map_at hd1
    obtain ⟨b, u, v, rfl, hb, hu, hv⟩ := dp_pair hdx
    obtain ⟨c1, z1, rfl, hc1, rfl⟩ := dp_seqN hu
    obtain ⟨c2, z2, rfl, hc2, rfl⟩ := dp_seqN hv
    refine ⟨b, _, rfl, sqT_mono s hb, rfl, _, _, rfl, _, _, rfl, rfl, ?_⟩
    refine ⟨_, rfl, _, rfl, c1, _, rfl, .inr (sqT_mono s hc1), _, _, rfl, rfl, ?_⟩
    refine ⟨_, rfl, _, rfl, c2, _, rfl, .inr (sqT_mono s hc2), _, _, rfl, rfl, ?_⟩
    refine ⟨some (.ref c1), some (.ref c2), ?_, s⟩
    rw [endP_snoc hl, List.length_map, List.length_map]
    rfl
  · rintro σ H' ⟨y3, y4, rfl, s⟩
    rw [hxl, List.take_length]
    refine ⟨_, rfl, _, rfl, (by show 2 ≤ sizeLine; decide), fun p hp => ?_⟩
    exact q _ _ (s.trans (same_new hp)) (.tup (nw_newT (Same.free s hp) upd_same) (.cons (.int _) (.cons (.int _) .nil)))
end
end Tk
namespace Tk
open PySem PySem.Spec PyProof.Rows L2
open SX (S)

section
variable {P : Program} {w : World} {K : PySem.W.Frag} {mg : Str → Option Value} {base : Heap} {C SH : Addr}

theorem sc_cost_on : FnScope ["pricing", "rest", "step", "i", "j", "to", "at"] ["pricing", "rest", "step", "i", "j"] (defScope (topS 16)) := ⟨rfl, rfl, rfl, by decide +kernel, rfl, by decide +kernel, by decide +kernel⟩
theorem bn_cost_on : Bnd "cost_on" "cost_on" (topS 16) ["pricing", "rest", "step", "i", "j"] := fun _ _ _ _ _ _ us hl => match us, hl with | [_, _, _, _, _], _ => rfl
theorem no_stepc (a b : Addr) (w pr : V) : (flds a b w pr).lookup ("step_cost" : Str) = none := flds_no a b w pr (by decide +kernel) (by decide +kernel) (by decide +kernel) (by decide +kernel)
theorem grd_at {K : PySem.W.Frag} {H : Hp} {vr : V} {g : List (List Int)} {m n a b : Nat} (hd : Dp K H vr (gD g)) (G : Grd m n g) (ha : a ≤ m) (hb : b ≤ n) :
    ∃ r rows c cells, vr = .ref r ∧ SqL K H r rows ∧ rows[a]? = some (.ref c) ∧ SqL K H c cells ∧ cells[b]? = some (.int (gv g a b)) := by
  obtain ⟨r, rows, rfl, hs, hr⟩ := dp_lst hd
  have hal : a < g.length := by rw [G.rows]; omega
  obtain ⟨v, hv, hdv⟩ := dpa_get (i := a) (d := .list (g[a].map .int)) hr (by rw [List.getElem?_map, List.getElem?_eq_getElem hal]; rfl)
  obtain ⟨c, cells, rfl, hc, hcs⟩ := dp_lst hdv
  have e := dpAll_ints hcs
  subst e
  have hbl : b < g[a].length := by rw [G.cols _ (List.getElem_mem hal)]; omega
  refine ⟨r, rows, c, _, rfl, hs, hv, hc, ?_⟩
  rw [List.getElem?_map, List.getElem?_eq_getElem hbl]
  unfold gv
  rw [List.getD_eq_getElem?_getD (l := g), List.getElem?_eq_getElem hal, Option.getD_some, List.getD_eq_getElem?_getD, List.getElem?_eq_getElem hbl]
  rfl
theorem c_cost_on (T : Txt K mg C SH) : C8.Cal P w K mg base 5 "cost_on" (sp_cost_on K C) [] := by
  have c_ends_at : C8.Cal P w K mg base 1 "ends_at" (sp_ends_at K C) [] := Tk.c_ends_at T
  have c_step_cost : C8.Met P w K mg base 4 C "step_cost" (sp_step_cost K C) [] := Tk.c_step_cost T
  refine calD T.d_cost_on bn_cost_on sc_cost_on (fun vs H Q E h => by obtain ⟨_, _, _, _, _, _, _, _, _, _, rfl, _⟩ := h; rfl) (fun f cdv A outer s H vs Q E hr h => ?_)
  refine ⟨_, (pss_cons (ps_asg (C8.pe_c c_ends_at hr (by decide) (by rfl) (pa_cons (pv 2) (pa_cons (pv 3) (pa_cons (pv 4) pa_nil)))) (pg_tupK K (n := 2) rfl rfl (pgs_cons (pg_name (i := 5) sc_cost_on.nd rfl (Or.inl rfl)) (pgs_cons (pg_name (i := 6) sc_cost_on.nd rfl (Or.inl rfl)) pgs_nil))))
    (pss_one (ps_ret (pe_op op_add (C8.pe_mt c_step_cost hr (by decide) (pv 0) (pa_cons (pv 2) pa_nil)) (pe_ix (ix_listK K rfl) (pe_ix (ix_listK K rfl) (pv 1) (pv 5) (fun _ _ => rfl)) (pv 6) (fun _ _ => rfl)))))), ?_⟩
  obtain ⟨p, vr, vst, P, g, st, i, j, m, n, rfl, okp, hp, hr', G, hst, oks, hto, hat, q⟩ := h
  obtain ⟨dx, a, b, c1, c2, wv, pr, h1, h2, h3, h4, h5, h6, h7⟩ := id hp
  refine ⟨_, rfl, _, rfl, _, rfl, vst, st, i, j, rfl, hst, oks.1, fun v H1 s1 d1 => ?_⟩
  obtain ⟨t, x, y, rfl, ht, hx, hy⟩ := dp_pair d1
  have ex := dp_int hx
  have ey := dp_int hy
  subst ex ey
  obtain ⟨r, rows, c, cells, rfl, hrs, hra, hcs, hca⟩ := grd_at hr' G hto hat
  refine ⟨t, _, rfl, sqT_mono (ex_same _ _) ht, rfl, _, _, rfl, _, _, rfl, rfl, ?_⟩
  refine ⟨_, rfl, p, dx, _, rfl, s1 _ _ h1, no_stepc _ _ _ _, _, rfl, p, vst, P, st, rfl, okp, prAt_mono s1 hp, dp_up hst s1, oks, fun H2 s2 => ?_⟩
  have s12 := s1.trans s2
  exact ⟨_, rfl, _, rfl, _, _, _, _, rfl, rfl, sqL_mono s12 hrs, atI_nat hra, _, rfl, _, _, _, _, rfl, rfl, sqL_mono s12 hcs, atI_nat hca, _, _, rfl, rfl, q H2 s12⟩
end
end Tk
namespace Tk
open PySem PySem.Spec PyProof.Rows L2
open SX (S)
/-! ### a grid in the making -/
theorem dpa_idx {K : PySem.W.Frag} {H : Hp} : ∀ {vs : List V} {ds : List PyData}, vs.length = ds.length → (∀ (k : Nat) (v : V) (d : PyData), vs[k]? = some v → ds[k]? = some d → Dp K H v d) → DpAll K H vs ds
  | [], [], _, _ => .nil
  | [], _ :: _, e, _ => nomatch e
  | _ :: _, [], e, _ => nomatch e
  | v :: vs, d :: ds, e, h => .cons (h 0 v d rfl rfl) (dpa_idx (by simpa using e) fun k u c h1 h2 => h (k + 1) u c (by simpa using h1) (by simpa using h2))
structure GAt (H0 : Hp) (o : Addr) (H : Hp) (g : List (List Int)) (rs : List Addr) : Prop where
  same : Same H0 H
  top : H o = some (.lst (rs.map V.ref))
  newo : H0 o = none
  len : rs.length = g.length
  nd : rs.Nodup
  ne : ∀ r ∈ rs, r ≠ o ∧ H0 r = none
  row : ∀ (k : Nat) (r : Addr) (row : List Int), rs[k]? = some r → g[k]? = some row → H r = some (.lst (row.map V.int))
section
variable {K : PySem.W.Frag} {H0 H H1 : Hp} {o : Addr} {g : List (List Int)} {rs : List Addr}
theorem GAt.kept (G : GAt H0 o H g rs) (s : Same H H1) : GAt H0 o H1 g rs := ⟨G.same.trans s, s _ _ G.top, G.newo, G.len, G.nd, G.ne, fun k r row h1 h2 => s _ _ (G.row k r row h1 h2)⟩
theorem GAt.dp (G : GAt H0 o H g rs) : Dp K (nw H0 H) (.ref o) (gD g) := by
  refine .lst (nw_new G.newo G.top) (dpa_idx (by rw [List.length_map, List.length_map, G.len]) fun k v d h1 h2 => ?_)
  obtain ⟨r, hr, rfl⟩ := map_at h1
  obtain ⟨row, hw, rfl⟩ := map_at h2
  exact .lst (nw_new (G.ne r (List.mem_of_getElem? hr)).2 (G.row k r row hr hw)) (ints_dp _)
theorem GAt.dpH (G : GAt H0 o H g rs) : Dp K H (.ref o) (gD g) := dp_up G.dp (ex_same _ _)
def gset (g : List (List Int)) (i j : Nat) (x : Int) : List (List Int) := g.set i ((g.getD i []).set j x)
theorem getD_of {α : Type} {l : List α} {i : Nat} {x d : α} (h : l[i]? = some x) : l.getD i d = x := by rw [List.getD_eq_getElem?_getD, h]; rfl
theorem nd_inj {rs : List Addr} (nd : rs.Nodup) {i k : Nat} {r : Addr} (h1 : rs[i]? = some r) (h2 : rs[k]? = some r) : i = k := by
  have l1 := at_lt h1
  exact (List.getElem?_inj l1 nd).mp (h1.trans h2.symm)
theorem GAt.put (G : GAt H0 o H g rs) {i j : Nat} {r : Addr} {row : List Int} {x : Int} (hr : rs[i]? = some r) (hw : g[i]? = some row) : GAt H0 o (upd H r (.lst ((row.set j x).map V.int))) (gset g i j x) rs := by
  obtain ⟨n1, n2⟩ := G.ne r (List.mem_of_getElem? hr)
  refine ⟨fun a u e => ?_, ?_, G.newo, by unfold gset; rw [List.length_set]; exact G.len, G.nd, G.ne, ?_⟩
  · rw [upd_ne (ne_of_none e n2)]; exact G.same _ _ e
  · rw [upd_ne (fun e => n1 e.symm)]; exact G.top
  · intro k r' row' h1 h2
    unfold gset at h2
    rw [getD_of hw] at h2
    by_cases e : k = i
    · subst e
      rw [hr] at h1
      cases h1
      rw [List.getElem?_set_self (at_lt hw)] at h2
      cases h2
      exact upd_same
    · rw [List.getElem?_set_ne (fun z => e z.symm)] at h2
      rw [upd_ne (fun z : r' = r => e (nd_inj G.nd (by rw [h1, z]) hr))]
      exact G.row k r' row' h1 h2
end
theorem gv_set {g : List (List Int)} {i j : Nat} {x : Int} (hi : i < g.length) (hj : j < (g.getD i []).length) (a b : Nat) : gv (gset g i j x) a b = if a = i ∧ b = j then x else gv g a b := by
  unfold gv gset
  by_cases ha : a = i
  · subst ha
    rw [List.getD_eq_getElem?_getD (l := g.set _ _), List.getElem?_set_self hi, Option.getD_some]
    by_cases hb : b = j
    · subst hb
      rw [if_pos ⟨rfl, rfl⟩, List.getD_eq_getElem?_getD, List.getElem?_set_self hj]
      rfl
    · rw [if_neg (fun z => hb z.2), List.getD_eq_getElem?_getD, List.getElem?_set_ne (fun z => hb z.symm), ← List.getD_eq_getElem?_getD]
  · rw [if_neg (fun z => ha z.1), List.getD_eq_getElem?_getD (l := g.set _ _), List.getElem?_set_ne (fun z => ha z.symm), ← List.getD_eq_getElem?_getD]
theorem grd_row {m n i : Nat} {g : List (List Int)} (G : Grd m n g) (hi : i ≤ m) : ∃ row, g[i]? = some row ∧ row.length = n + 1 := by
  have h : i < g.length := by rw [G.rows]; omega
  exact ⟨g[i], List.getElem?_eq_getElem h, G.cols _ (List.getElem_mem h)⟩
theorem grd_set {m n i j : Nat} {g : List (List Int)} (G : Grd m n g) (hi : i ≤ m) (x : Int) : Grd m n (gset g i j x) := by
  obtain ⟨row, hr, hl⟩ := grd_row G hi
  refine ⟨by unfold gset; rw [List.length_set, G.rows], fun r h => ?_⟩
  unfold gset at h
  rcases List.mem_or_eq_of_mem_set h with h | h
  · exact G.cols r h
  · rw [h, List.length_set, getD_of hr, hl]
theorem best_congr {P : Prc} {m n a b : Nat} {f f' : Nat → Nat → Int} (ha : a ≤ m) (hb : b ≤ n) (e : ∀ c d, a ≤ c → b ≤ d → f' c d = f c d) (B : Best P m n f a b) : Best P m n f' a b := by
  constructor
  · intro s hs
    obtain ⟨h1, h2, h3, h4, h5⟩ := endP_le hs ha hb
    rw [e a b (Nat.le_refl _) (Nat.le_refl _), e _ _ h1 h3]
    exact B.le s hs
  · rcases B.eq with ⟨h, z⟩ | ⟨s, hs, z⟩
    · exact .inl ⟨h, by rw [e a b (Nat.le_refl _) (Nat.le_refl _)]; exact z⟩
    · obtain ⟨h1, h2, h3, h4, h5⟩ := endP_le hs ha hb
      exact .inr ⟨s, hs, by rw [e a b (Nat.le_refl _) (Nat.le_refl _), e _ _ h1 h3]; exact z⟩
/-- the rows t from below, and u cells of the next, are done -/
def Dnn (m n t u : Nat) (a b : Nat) : Prop := m < a + t ∨ (a + t = m ∧ n < b + u)
structure GInv (P : Prc) (m n t u : Nat) (g : List (List Int)) : Prop where
  gr : Grd m n g
  done : ∀ a b, a ≤ m → b ≤ n → Dnn m n t u a b → Best P m n (gv g) a b
  zero : ∀ a b, a ≤ m → b ≤ n → ¬ Dnn m n t u a b → gv g a b = 0
theorem GInv.next {P : Prc} {m n t : Nat} {g : List (List Int)} (I : GInv P m n t (n + 1) g) : GInv P m n (t + 1) 0 g := by
  refine ⟨I.gr, fun a b ha hb d => I.done a b ha hb ?_, fun a b ha hb d => I.zero a b ha hb fun d2 => d ?_⟩
  · unfold Dnn at *; omega
  · unfold Dnn at *; omega
theorem GInv.fin {P : Prc} {m n : Nat} {g : List (List Int)} (I : GInv P m n (m + 1) 0 g) : GridOk P m n g := ⟨I.gr, fun i j hi hj => I.done i j hi hj (by unfold Dnn; omega)⟩
theorem GInv.zeros (P : Prc) (m n : Nat) : GInv P m n 0 0 (List.replicate (m + 1) (List.replicate (n + 1) 0)) := by
  refine ⟨⟨by rw [List.length_replicate], fun r h => by rw [List.eq_of_mem_replicate h, List.length_replicate]⟩, fun a b ha hb d => ?_, fun a b ha hb _ => ?_⟩
  · unfold Dnn at d; omega
  · unfold gv
    rw [getD_of (x := List.replicate (n + 1) 0) (by rw [List.getElem?_replicate, if_pos (by omega)]), getD_of (x := (0 : Int)) (by rw [List.getElem?_replicate, if_pos (by omega)])]
/-- nothing to go on by: the last cell -/
theorem GInv.skip {P : Prc} {m n t u : Nat} {g : List (List Int)} (I : GInv P m n t u g) (ht : t ≤ m) (hu : u ≤ n) (e : stpP (m - t) (n - u) m n = []) : GInv P m n t (u + 1) g := by
  refine ⟨I.gr, fun a b ha hb d => ?_, fun a b ha hb d => I.zero a b ha hb fun d2 => d (by unfold Dnn at *; omega)⟩
  by_cases h : Dnn m n t u a b
  · exact I.done a b ha hb h
  · have ea : a = m - t := by unfold Dnn at *; omega
    have eb : b = n - u := by unfold Dnn at *; omega
    subst ea eb
    exact ⟨fun s hs => by rw [e] at hs; exact absurd hs List.not_mem_nil, .inl ⟨e, I.zero _ _ ha hb h⟩⟩
theorem GInv.step {P : Prc} {m n t u : Nat} {g : List (List Int)} (I : GInv P m n t u g) (ht : t ≤ m) (hu : u ≤ n) {x : Int}
    (hle : ∀ s ∈ stpP (m - t) (n - u) m n, x ≤ stC P s + gv g (endP s (m - t) (n - u)).1 (endP s (m - t) (n - u)).2)
    (hex : ∃ s ∈ stpP (m - t) (n - u) m n, x = stC P s + gv g (endP s (m - t) (n - u)).1 (endP s (m - t) (n - u)).2) : GInv P m n t (u + 1) (gset g (m - t) (n - u) x) := by
  obtain ⟨row, hr, hl⟩ := grd_row I.gr (Nat.sub_le m t)
  have hv := gv_set (g := g) (i := m - t) (j := n - u) (x := x) (at_lt hr) (by rw [getD_of hr, hl]; omega)
  refine ⟨grd_set I.gr (Nat.sub_le _ _) x, fun a b ha hb d => ?_, fun a b ha hb d => ?_⟩
  · by_cases h : a = m - t ∧ b = n - u
    · obtain ⟨rfl, rfl⟩ := h
      have other : ∀ s ∈ stpP (m - t) (n - u) m n, gv (gset g (m - t) (n - u) x) (endP s (m - t) (n - u)).1 (endP s (m - t) (n - u)).2 = gv g (endP s (m - t) (n - u)).1 (endP s (m - t) (n - u)).2 := fun s hs => by
        obtain ⟨h1, h2, h3, h4, h5⟩ := endP_le hs ha hb
        rw [hv, if_neg (fun z => by omega)]
      refine ⟨fun s hs => ?_, .inr ?_⟩
      · rw [other s hs, hv, if_pos ⟨rfl, rfl⟩]; exact hle s hs
      · obtain ⟨s, hs, e⟩ := hex
        exact ⟨s, hs, by rw [other s hs, hv, if_pos ⟨rfl, rfl⟩]; exact e⟩
    · refine best_congr ha hb (fun c d' hc hd => ?_) (I.done a b ha hb (by unfold Dnn at *; omega))
      rw [hv, if_neg (fun z => by unfold Dnn at *; omega)]
  · rw [hv, if_neg (fun z => by unfold Dnn at *; omega)]
    exact I.zero a b ha hb (by unfold Dnn at *; omega)
theorem ixN_at {n j : Nat} (hj : j < n) : ixN n (j : Int) = some j := by
  unfold ixN
  rw [if_pos (by omega), if_pos (by omega)]
  simp
/-! ### data without texts may be compared -/
theorem layAll_map {α : Type} {f : α → PyData} : ∀ {l : List α}, (∀ x ∈ l, (f x).canLay0 = true) → PyData.canLayAll0 (l.map f) = true
  | [], _ => by simp [PyData.canLayAll0]
  | a :: l, h => by
    rw [List.map_cons, PyData.canLayAll0, h a (List.mem_cons_self ..), layAll_map fun x hx => h x (List.mem_cons_of_mem _ hx)]
    rfl
theorem depAll_map {α : Type} {f : α → PyData} {k : Nat} : ∀ {l : List α}, (∀ x ∈ l, (f x).depth ≤ k) → PyData.depthAll (l.map f) ≤ k
  | [], _ => by simp [PyData.depthAll]
  | a :: l, h => by
    rw [List.map_cons, PyData.depthAll]
    exact Nat.max_le.mpr ⟨h a (List.mem_cons_self ..), depAll_map fun x hx => h x (List.mem_cons_of_mem _ hx)⟩
theorem shaped_of {d : PyData} {k : Nat} (h : d.canLay0 = true) (hk : d.depth ≤ k) (h64 : k ≤ 64 := by decide) : SeqAt.shaped d = true := by
  unfold SeqAt.shaped
  rw [h, decide_eq_true (Nat.le_trans hk h64)]
  rfl
theorem lay_int (i : Int) : (PyData.int i).canLay0 = true := by simp [PyData.canLay0]
theorem dep_int (i : Int) : (PyData.int i).depth ≤ 0 := by simp [PyData.depth]
theorem lay_lst {l : List PyData} (h : PyData.canLayAll0 l = true) : (PyData.list l).canLay0 = true := by simpa [PyData.canLay0] using h
theorem lay_tup {l : List PyData} (h : PyData.canLayAll0 l = true) : (PyData.tuple l).canLay0 = true := by simpa [PyData.canLay0] using h
theorem dep_lst {l : List PyData} {k : Nat} (h : PyData.depthAll l ≤ k) : (PyData.list l).depth ≤ k + 1 := by simpa [PyData.depth] using h
theorem dep_tup {l : List PyData} {k : Nat} (h : PyData.depthAll l ≤ k) : (PyData.tuple l).depth ≤ k + 1 := by simpa [PyData.depth] using h
theorem shp_ints (l : List Int) : SeqAt.shaped (.list (l.map .int)) = true := shaped_of (k := 1) (lay_lst (layAll_map fun x _ => lay_int x)) (dep_lst (depAll_map fun x _ => dep_int x))
theorem shp_nil : SeqAt.shaped (.list []) = true := shp_ints []
theorem eqv_ints (l : List Int) : PyData.eqv (.list (l.map .int)) (.list []) = decide (l = []) := by
  cases l with
  | nil => simp [PyData.eqv, PyData.eqvAll]
  | cons a l => simp [PyData.eqv, PyData.eqvAll]
end Tk
namespace Tk
open PySem PySem.Spec PyProof.Rows L2
open SX (S)

section
variable {P : Program} {w : World} {K : PySem.W.Frag} {mg : Str → Option Value} {base : Heap} {C SH : Addr}

theorem sc_costs_left : FnScope ["pricing", "m", "n", "i", "rest", "j", "some", "step"] ["pricing", "m", "n"] (defScope (topS 17)) := ⟨rfl, rfl, rfl, by decide +kernel, rfl, by decide +kernel, by decide +kernel⟩
theorem bn_costs_left : Bnd "costs_left" "costs_left" (topS 17) ["pricing", "m", "n"] := fun _ _ _ _ _ _ us hl => match us, hl with | [_, _, _], _ => rfl
theorem lc_rows {g : TG} {te : TE} {vs : List Nat} {σ : L2.St} {H1 : Hp} {D : Addr} {Qd : Hp → Prop} {k n : Nat} (hD : H1 D = none) (hk : k < sizeLine)
    (hs : ∀ (i : Nat) (H : Hp), Same H1 H → ∀ Q : VK, (∀ q H2, Same H H2 → H2 q = none → Q (.ref q) (upd H2 q (.lst (List.replicate (n + 1) (V.int 0))))) → g (.int (0 + (i : Int))) (wipe σ vs) H fun σ2 H2 => wipe σ2 vs = wipe σ vs ∧ te σ2 H2 Q)
    (hd : ∀ H' rs, GAt H1 D H' (List.replicate k (List.replicate (n + 1) 0)) rs → Qd H') :
    ∃ W : Nat → Nat → Hp → Prop, (∃ m, W 0 m (upd H1 D (.lst []))) ∧ ∀ i m H, W i m H →
      ((Itr 0 k).stop i H ∧ Qd H) ∨ ((Itr 0 k).go i H ∧ ∃ Nx : Hp → Prop, (∀ H', Nx H' → ∃ m', m' < m ∧ W (i + 1) m' H') ∧ ∀ x H', (Itr 0 k).yld i H x H' → g x (wipe σ vs) H' fun σ2 H2 => wipe σ2 vs = wipe σ vs ∧ tYes σ2 H2 fun b H3 =>
        if b = true then te σ2 H3 fun y H4 => ∃ acc, H4 D = some (.lst acc) ∧ acc.length < sizeLine ∧ Nx (upd H4 D (.lst (acc ++ [y]))) else Nx H3) := by
  have kD : ∀ {H : Hp} {o : HO}, Same H1 H → Same H1 (upd H D o) := fun {H o} s b u e => by
    rw [upd_ne (ne_of_none e hD)]; exact s b u e
  have rep : (List.replicate (n + 1) (V.int 0)) = (List.replicate (n + 1) (0 : Int)).map V.int := by rw [List.map_replicate]
  refine lc_it (walk_range (lo := 0) (n := k)) (fun i H => ∃ rs : List Addr, GAt H1 D H (List.replicate i (List.replicate (n + 1) 0)) rs) ?_ ?_ ?_ ?_
  · exact ⟨[], kD (Same.refl _), upd_same, hD, rfl, List.nodup_nil, fun r h => absurd h List.not_mem_nil, fun k r row h => by simp at h⟩
  · rintro i H _ _
    trivial
  · rintro i x H H' hi ⟨rs, G⟩ ⟨rfl, rfl⟩
    refine hs i H' G.same _ ?_
    intro q H2 s2 hq
    have G2 := G.kept s2
    have hqD : q ≠ D := fun e => by rw [e, G2.top] at hq; cases hq
    have hl : rs.length = i := by rw [G.len, List.length_replicate]
    refine ⟨rs.map V.ref, by rw [upd_ne (fun e => hqD e.symm)]; exact G2.top, by rw [List.length_map, hl]; omega, rs ++ [q], kD (G2.same.trans (same_new hq)), ?_, hD, ?_, ?_, ?_, ?_⟩
    · rw [upd_same, List.map_append]; rfl
    · rw [List.length_append, List.length_replicate, hl]; rfl
    · rw [List.nodup_append]
      refine ⟨G.nd, by simp, fun a ha b hb e => ?_⟩
      have : b = q := by simpa using hb
      subst this e
      obtain ⟨k, hk⟩ := List.getElem?_of_mem ha
      have hlk := at_lt hk
      have := G2.row k a (List.replicate (n + 1) 0) hk (by rw [List.getElem?_replicate, if_pos (by omega)])
      rw [hq] at this
      cases this
    · intro r hr
      rcases List.mem_append.mp hr with hr | hr
      · exact G.ne r hr
      · have : r = q := by simpa using hr
        subst this
        exact ⟨hqD, G2.same.free hq⟩
    · intro k r row h1 h2
      rw [List.getElem?_replicate] at h2
      split at h2
      case isFalse => cases h2
      case isTrue hlt =>
        cases h2
        by_cases hki : k < i
        · rw [List.getElem?_append_left (by omega)] at h1
          have := G2.row k r (List.replicate (n + 1) 0) h1 (by rw [List.getElem?_replicate, if_pos hki])
          rw [upd_ne (G.ne r (List.mem_of_getElem? h1)).1, upd_ne (ne_of_none this hq)]
          exact this
        · have e : k = i := by omega
          subst e
          rw [List.getElem?_append_right (by omega), hl, Nat.sub_self] at h1
          have e2 : q = r := Option.some.inj h1
          subst e2
          rw [upd_ne hqD, upd_same, rep]
  · rintro H ⟨rs, G⟩
    exact hd H rs G
theorem flat_rep (k : Nat) (x : V) : (List.replicate k [x]).flatten = List.replicate k x := by
  induction k with
  | zero => rfl
  | succ k ih => rw [List.replicate_succ, List.flatten_cons, ih]; rfl
theorem c_costs_left (T : Txt K mg C SH) : C8.Cal P w K mg base 6 "costs_left" (sp_costs_left K C) [] := by
  have c_cost_on : C8.Cal P w K mg base 5 "cost_on" (sp_cost_on K C) [] := Tk.c_cost_on T
  have c_steps_from : C8.Cal P w K mg base 1 "steps_from" (sp_steps_from K C) [] := Tk.c_steps_from T
  refine calD T.d_costs_left bn_costs_left sc_costs_left (fun vs H Q E h => by obtain ⟨_, _, _, _, rfl, _⟩ := h; rfl) (fun f cdv A outer s H vs Q E hr h => ?_)
  refine ⟨_, (pss_cons (ps_set (i := 4) sc_costs_left.nd rfl (Or.inr rfl) (pe_lc (own := [("i", 3)]) (tt := tYes) rfl sc_costs_left.nd (pi_range1 (by rfl) T.range (pa_cons (pe_op op_add (pv 1) pe_int) pa_nil)) (blkOk_by (N := ["pricing", "m", "n", "i", "rest", "j", "some", "step"]) (sc := defScope (topS 17)) (by decide +kernel)) (fun _ _ _ _ _ => by exact (pg_name (i := 3) sc_costs_left.nd rfl (Or.inl rfl))) (fun _ _ _ _ _ => by exact pts_nil) (fun _ _ _ _ _ => by exact (pe_op op_rep (pe_lst (pa_cons pe_int pa_nil)) (pe_op op_add (pv 2) pe_int)))))
    (pss_cons (ps_for PassesOwn.never rfl (pi_range3 (by rfl) T.range (pa_cons (pv 1) (pa_cons (pe_un un_neg pe_int) (pa_cons (pe_un un_neg pe_int) pa_nil)))) (pg_name (i := 3) sc_costs_left.nd rfl (Or.inr rfl))
      (pss_one (ps_for PassesOwn.never rfl (pi_range3 (by rfl) T.range (pa_cons (pv 2) (pa_cons (pe_un un_neg pe_int) (pa_cons (pe_un un_neg pe_int) pa_nil)))) (pg_name (i := 5) sc_costs_left.nd rfl (Or.inr rfl))
        (pss_cons (ps_setLc (i := 6) (own := [("step", 7)]) (tt := tYes) rfl sc_costs_left.nd rfl rfl (sw_true rfl rfl rfl (by decide +kernel)) (pi_listK K rfl (C8.pe_c c_steps_from hr (by decide) (by rfl) (pa_cons (pv 3) (pa_cons (pv 5) (pa_cons (pv 1) (pa_cons (pv 2) pa_nil)))))) (blkOk_by (N := ["pricing", "m", "n", "i", "rest", "j", "some", "step"]) (sc := defScope (topS 17)) (by decide +kernel)) (fun _ _ _ _ _ => by exact (pg_name (i := 7) sc_costs_left.nd rfl (Or.inl rfl))) (fun _ _ _ _ _ => by exact pts_nil) (fun _ _ _ _ _ => by exact (C8.pe_c c_cost_on hr (by decide) (by rfl) (pa_cons (pv 0) (pa_cons (pv 4) (pa_cons (pv 7) (pa_cons (pv 3) (pa_cons (pv 5) pa_nil))))))))
        (pss_one (ps_if (pt_cmpR (op_neDK K rfl hr.units) (pv 6) (pe_lst pa_nil) (nomark _)) (pss_one (ps_asg (pe_callB (cr_minK K rfl rfl) (by rfl) T.min (by decide +kernel) (pa_cons (pv 6) pa_nil)) (pg_sub (pe_ix (ix_listK K rfl) (pv 4) (pv 3) (fun _ _ => rfl)) (pv 5) set_list))) pss_nil))))))
    (pss_one (ps_ret (pv 4))))), ?_⟩
  obtain ⟨p, P, m, n, rfl, okp, hp, hm, hn, q⟩ := h
  have hm30 : m ≤ 30 := by rw [hm]; exact okp.n1
  have hn30 : n ≤ 30 := by rw [hn]; exact okp.n2
  refine ⟨_, rfl, _, _, rfl, rfl, _, rfl, by omega, by omega, fun D hD => lc_rows (k := ((m : Int) + 1).toNat) (n := n) hD (lt_line (by omega)) ?_ ?_⟩
  · intro i H1 s1 Q' q'
    refine ⟨rfl, le_line (by simp), fun q1 h1 => ⟨_, rfl, _, _, rfl, rfl, q1, _, _, rfl, rfl, upd_same, by omega, by omega, ?_, fun q2 h2 => ?_⟩⟩
    · exact le_line (by simp; omega)
    · have e : ((n : Int) + 1).toNat = n + 1 := by omega
      rw [flat_rep, e]
      exact q' q2 _ (same_new h1) h2
  intro H1 rs G1
  have em : ((m : Int) + 1).toNat = m + 1 := by omega
  rw [em] at G1
  refine ⟨_, rfl, _, rfl, _, rfl, _, _, _, _, rfl, RgC.neg (by omega) (by omega) (by omega) (by omega), for_rangeC (fun t σ H' => ∃ y3 y5 y6 y7 g, σ = [some (.ref p), some (.int (m : Int)), some (.int (n : Int)), y3, some (.ref D), y5, y6, y7] ∧ GAt H D H' g rs ∧ GInv P m n t 0 g) ?_ ?_ ?_⟩
  · exact ⟨none, none, none, none, _, rfl, G1, GInv.zeros P m n⟩
  · rintro t σ H2 ht ⟨y3, y5, y6, y7, g, rfl, G2, I2⟩
    have htm : t ≤ m := by omega
    have et : (m : Int) + (t : Int) * (-1) = ((m - t : Nat) : Int) := by omega
    rw [et]
    refine ⟨_, rfl, _, rfl, _, rfl, _, _, _, _, rfl, RgC.neg (by omega) (by omega) (by omega) (by omega), for_rangeC (fun u σ H' => ∃ y5 y6 y7 g, σ = [some (.ref p), some (.int (m : Int)), some (.int (n : Int)), some (.int ((m - t : Nat) : Int)), some (.ref D), y5, y6, y7] ∧ GAt H D H' g rs ∧ GInv P m n t u g) ?_ ?_ ?_⟩
    · exact ⟨y5, y6, y7, g, rfl, G2, I2⟩
    · clear G2 I2
      rintro u σ H3 hu ⟨y5, y6, y7, g, rfl, G3, I3⟩
      have hun : u ≤ n := by omega
      have eu : (n : Int) + (u : Int) * (-1) = ((n - u : Nat) : Int) := by omega
      rw [eu]
      have him : m - t ≤ m := Nat.sub_le _ _
      have hjn : n - u ≤ n := Nat.sub_le _ _
      -- steps_from
      refine ⟨_, rfl, _, rfl, _, rfl, _, rfl, m - t, n - u, m, n, rfl, hm30, hn30, fun v H4 s4 d4 => ?_⟩
      obtain ⟨av, xs, rfl, hxs, hds⟩ := dp_lst d4
      have hxl : xs.length = (stpP (m - t) (n - u) m n).length := by rw [dpa_len hds, List.length_map]
      have hxl8 : xs.length ≤ 8 := by rw [hxl]; exact stpP_len _ _ _ _
      refine ⟨av, rfl, ⟨_, sqL_mono (ex_same _ _) hxs⟩, fun Z hZ => lcL_map (K := K) (sqL_mono (ex_same _ _) hxs) ((stpP (m - t) (n - u) m n).map fun s => PyData.int (stC P s + gv g (endP s (m - t) (n - u)).1 (endP s (m - t) (n - u)).2)) (by rw [List.length_map, hxl]) hZ (lt_line (by omega)) ?_ ?_⟩
      · intro k x e H5 hx he s5 Q' q'
        obtain ⟨d, hd1, hdx⟩ := dpa_of hds hx
        obtain ⟨s0, hs0, rfl⟩ := map_at hd1
        obtain ⟨s1, hs1, rfl⟩ := map_at he
        rw [hs0] at hs1
        cases hs1
        have hmem := List.mem_of_getElem? hs0
        have s45 := s4.trans s5
        have G5 := G3.kept s45
        obtain ⟨e1, e2, e3, e4, e5⟩ := endP_le hmem him hjn
        refine ⟨rfl, _, rfl, _, rfl, _, rfl, _, rfl, _, rfl, p, _, _, P, g, s0, m - t, n - u, m, n, rfl, okp, prAt_mono G5.same hp, G5.dpH, I3.gr, dp_up hdx ((ex_same _ _).trans s5), stp_ok hmem (by omega) (by omega), e2, e4, fun H6 s6 => q' _ _ s6 (.int _)⟩
      · intro H5 s5 d5
        have G5 := G3.kept (s4.trans s5)
        have d5' : Dp K (nw H4 H5) (.ref Z) (.list (((stpP (m - t) (n - u) m n).map fun s => stC P s + gv g (endP s (m - t) (n - u)).1 (endP s (m - t) (n - u)).2).map .int)) := by rw [List.map_map]; exact d5
        refine ⟨_, rfl, le_line (by simp), fun z2 hz2 => ⟨_, _, dp_up (dp_up d5' (ex_same _ _)) (same_new hz2), .lst (SqL.of upd_same) .nil, shp_ints _, shp_nil, _, rfl, ?_⟩⟩
        rw [eqv_ints]
        have G6 := G5.kept (same_new (o := .lst []) hz2)
        by_cases h0 : stpP (m - t) (n - u) m n = []
        · rw [decide_eq_true (by rw [h0]; rfl)]
          exact iteF ⟨_, _, _, g, rfl, G6, I3.skip htm hun h0⟩
        · rw [decide_eq_false (by simpa using h0)]
          refine iteT ⟨_, rfl, Z, _, rfl, sqL_mono (same_new hz2) (sqL_of d5'), by rw [List.length_map]; exact List.length_pos_iff.mpr h0, fun x hxm hxl => ?_⟩
          have hil : m - t < rs.length := by rw [G6.len, I3.gr.rows]; omega
          obtain ⟨row, hrow, hrl⟩ := grd_row I3.gr him
          have hr1 : rs[m - t]? = some rs[m - t] := List.getElem?_eq_getElem hil
          refine ⟨_, rfl, _, rfl, _, _, _, _, rfl, rfl, SqL.of G6.top, atI_nat (by rw [List.getElem?_map, hr1]; rfl), _, rfl, _, _, _, _, rfl, rfl, G6.row _ _ _ hr1 hrow, ixN_at (by rw [List.length_map]; omega), ?_⟩
          have GP := G6.put (j := n - u) (x := x) hr1 hrow
          rw [List.map_set] at GP
          refine ⟨_, _, _, _, rfl, GP, I3.step htm hun (fun s hs => hxl _ (List.mem_map_of_mem hs)) ?_⟩
          obtain ⟨s, hs, e⟩ := List.mem_map.mp hxm
          exact ⟨s, hs, e.symm⟩
    · rintro σ H3 ⟨y5, y6, y7, g, rfl, G3, I3⟩
      have en : ((n : Int) - -1).toNat = n + 1 := by omega
      rw [en] at I3
      exact ⟨_, y5, y6, y7, g, rfl, G3, I3.next⟩
  · rintro σ H2 ⟨y3, y5, y6, y7, g, rfl, G2, I2⟩
    have en : ((m : Int) - -1).toNat = m + 1 := by omega
    rw [en] at I2
    exact ⟨_, rfl, q g _ H2 (I2.fin) G2.same G2.dp⟩
end
end Tk
namespace Tk
open PySem PySem.Spec PyProof.Rows L2
open SX (S)
/-! ### a comprehension whose items were there before -/
section
variable {K : PySem.W.Frag} {J : It} {n : Nat} {G : Hp → Prop} {Y : Nat → Hp → V → Hp → Prop} {g : TG} {tt : TT} {te : TE} {vs : List Nat} {σ : L2.St} {H1 : Hp} {D : Addr} {Qd : Hp → Prop}
theorem dp_old {T : As} {H1 H : Hp} {D : Addr} {y : V} {e : PyData} (hD : H1 D = none) (s : Same H1 H) (h : Dp K (ex T H1) y e) : Dp K (ex (uni T (one D)) H) y e := by
  refine dp_up h fun a o ha => ?_
  obtain ⟨h1, h2⟩ := of_ex ha
  rw [ex_out (uni_or h1 (one_ne (ne_of_none h2 hD)))]
  exact s _ _ h2
theorem lc_genT (w : Walk J n G Y) (T : As) (R : Nat → List PyData → Prop) (hD : H1 D = none) (hn : n < sizeLine) (hT : Le T (dm H1)) (hR : R 0 [])
    (hG : ∀ H', Same H1 H' → G H')
    (hs : ∀ i x H H' es, i < n → Same H1 H → R i es → Y i H x H' → ∀ (Q : VK) (Qn : Hp → Prop), (∀ y H'' e, Same H H'' → (Dp K (nw H H'') y e ∨ Dp K (ex T H1) y e) → R (i + 1) (es ++ [e]) → Q y H'') →
      (∀ H'', Same H H'' → R (i + 1) es → Qn H'') → g x (wipe σ vs) H' fun σ2 H2 => wipe σ2 vs = wipe σ vs ∧ tt σ2 H2 fun b H3 => if b = true then te σ2 H3 Q else Qn H3)
    (hd : ∀ H' es, Same H1 H' → R n es → Dp K (ex T H') (.ref D) (.list es) → Qd H') :
    ∃ W : Nat → Nat → Hp → Prop, (∃ m, W 0 m (upd H1 D (.lst []))) ∧ ∀ i m H, W i m H →
      (J.stop i H ∧ Qd H) ∨ (J.go i H ∧ ∃ Nx : Hp → Prop, (∀ H', Nx H' → ∃ m', m' < m ∧ W (i + 1) m' H') ∧ ∀ x H', J.yld i H x H' → g x (wipe σ vs) H' fun σ2 H2 => wipe σ2 vs = wipe σ vs ∧ tt σ2 H2 fun b H3 =>
        if b = true then te σ2 H3 fun y H4 => ∃ acc, H4 D = some (.lst acc) ∧ acc.length < sizeLine ∧ Nx (upd H4 D (.lst (acc ++ [y]))) else Nx H3) := by
  have hTD : T D = false := by
    cases e : T D with
    | false => rfl
    | true => exact absurd (hT D e) (by rw [dm_none hD]; exact Bool.false_ne_true)
  have kD : ∀ {H : Hp} {o : HO}, Same H1 H → Same H1 (upd H D o) := fun {H o} k a u h => by
    rw [upd_ne (ne_of_none h hD)]; exact k a u h
  refine lc_it w (fun i H => Same H1 H ∧ ∃ acc es, H D = some (.lst acc) ∧ es.length ≤ i ∧ DpAll K (ex (uni T (one D)) H) acc es ∧ R i es) ?_ ?_ ?_ ?_
  · exact ⟨kD (Same.refl _), [], [], upd_same, Nat.le_refl _, .nil, hR⟩
  · rintro i H _ ⟨k, _⟩
    exact hG H k
  · rintro i x H H' hi ⟨k, acc, es, ha, hl, hd, hr⟩ hy
    have hlen := dpa_len hd
    have go := hs i x H H' es hi k hr hy (fun y H4 => ∃ acc, H4 D = some (.lst acc) ∧ acc.length < sizeLine ∧ (Same H1 (upd H4 D (.lst (acc ++ [y]))) ∧ ∃ acc' es, (upd H4 D (.lst (acc ++ [y]))) D = some (.lst acc') ∧ es.length ≤ i + 1 ∧ DpAll K (ex (uni T (one D)) (upd H4 D (.lst (acc ++ [y])))) acc' es ∧ R (i + 1) es))
      (fun H3 => Same H1 H3 ∧ ∃ acc es, H3 D = some (.lst acc) ∧ es.length ≤ i + 1 ∧ DpAll K (ex (uni T (one D)) H3) acc es ∧ R (i + 1) es) ?_ ?_
    · exact go
    · intro y H'' e k2 hde hr2
      have hle : Le (uni T (one D)) (dm H) := le_uni (hT.trans (same_dm k)) (le_one (dm_some ha))
      refine ⟨acc, k2 _ _ ha, by omega, kD (k.trans k2), acc ++ [y], es ++ [e], upd_same, by rw [List.length_append]; exact Nat.add_le_add_right hl 1, ?_, hr2⟩
      rw [ex_upd (show uni T (one D) D = true from le_uniR _ _ D (one_self D))]
      refine dpa_snoc (dpa_up hd (Kp.of k2).ex) ?_
      rcases hde with hde | hde
      · exact dp_up hde (nw_le hle)
      · exact dp_old hD (k.trans k2) hde
    · intro H'' k2 hr2
      exact ⟨k.trans k2, acc, es, k2 _ _ ha, by omega, dpa_up hd (Kp.of k2).ex, hr2⟩
  · rintro H ⟨k, acc, es, ha, hl, hdd, hr⟩
    exact hd H es k hr (.lst (SqL.of ((ex_out hTD).trans ha)) (dpa_up hdd (ex_le H (le_uniL _ _))))
end
/-! ### ways -/
def Seg (m n : Nat) : Nat → Nat → List Stp → Nat → Nat → Prop
  | i, j, [], k, l => i = k ∧ j = l
  | i, j, s :: r, k, l => s ∈ stpP i j m n ∧ Seg m n (endP s i j).1 (endP s i j).2 r k l
theorem seg_path {m n : Nat} : ∀ {w : List Stp} {i j : Nat}, Seg m n i j w m n → Path m n i j w
  | [], _, _, h => h
  | _ :: _, _, _, h => ⟨h.1, seg_path h.2⟩
theorem seg_snoc {m n : Nat} {s : Stp} : ∀ {w : List Stp} {i j k l : Nat}, Seg m n i j w k l → s ∈ stpP k l m n → Seg m n i j (w ++ [s]) (endP s k l).1 (endP s k l).2
  | [], _, _, _, _, h, hs => by
    obtain ⟨rfl, rfl⟩ := h
    exact ⟨hs, rfl, rfl⟩
  | _ :: _, _, _, _, _, h, hs => ⟨h.1, seg_snoc h.2 hs⟩
theorem seg_len {m n : Nat} : ∀ {w : List Stp} {i j k l : Nat}, Seg m n i j w k l → i ≤ m → j ≤ n → w.length + i + j ≤ k + l ∧ k ≤ m ∧ l ≤ n
  | [], _, _, _, _, h, hi, hj => by
    obtain ⟨rfl, rfl⟩ := h
    simp
    omega
  | s :: w, i, j, k, l, h, hi, hj => by
    obtain ⟨h1, h2, h3, h4, h5⟩ := endP_le h.1 hi hj
    have := seg_len h.2 h2 h4
    rw [List.length_cons]
    omega
theorem path_seg {m n : Nat} : ∀ {w : List Stp} {i j : Nat}, Path m n i j w → Seg m n i j w m n
  | [], _, _, h => h
  | _ :: _, _, _, h => ⟨h.1, path_seg h.2⟩
theorem wayC_snoc (P : Prc) (w : List Stp) (s : Stp) : wayC P (w ++ [s]) = wayC P w + stC P s := by
  unfold wayC
  rw [List.map_append, List.sum_append]
  simp
/-- a way's cost is at least what the grid holds -/
theorem path_least {P : Prc} {m n : Nat} {f : Nat → Nat → Int} (B : ∀ i j, i ≤ m → j ≤ n → Best P m n f i j) : ∀ {w : List Stp} {i j : Nat}, i ≤ m → j ≤ n → Path m n i j w → f i j ≤ wayC P w + f m n
  | [], i, j, hi, hj, h => by
    obtain ⟨rfl, rfl⟩ := h
    unfold wayC
    simp
  | s :: w, i, j, hi, hj, h => by
    obtain ⟨h1, h2, h3, h4, h5⟩ := endP_le h.1 hi hj
    have := path_least B h2 h4 h.2
    have := (B i j hi hj).le s h.1
    have e : wayC P (s :: w) = stC P s + wayC P w := by unfold wayC; rw [List.map_cons, List.sum_cons]
    omega
theorem best_end {P : Prc} {m n : Nat} {f : Nat → Nat → Int} (B : Best P m n f m n) : f m n = 0 := by
  rcases B.eq with ⟨_, e⟩ | ⟨s, hs, _⟩
  · exact e
  · have := endP_le hs (Nat.le_refl m) (Nat.le_refl n)
    omega

/-! ### steps as typed data -/
def nT (l : List Nat) : PySem.W.Tup Int := ⟨l.map fun (n : Nat) => (n : Int)⟩
def stT (s : Stp) : PySem.W.Tup (PySem.W.Tup Int × PySem.W.Tup Int) := ⟨s.map fun l => (nT l.1, nT l.2)⟩
theorem nT_inj {a b : List Nat} (h : nT a = nT b) : a = b := by
  unfold nT at h
  injection h with h
  exact List.map_inj_right (fun _ _ e => by exact Int.ofNat.inj e) |>.mp h
theorem stT_inj {a b : Stp} (h : stT a = stT b) : a = b := by
  unfold stT at h
  injection h with h
  refine List.map_inj_right (fun x y e => ?_) |>.mp h
  have e1 := congrArg Prod.fst e
  have e2 := congrArg Prod.snd e
  exact Prod.ext (nT_inj e1) (nT_inj e2)
theorem tN_T (l : List Nat) : tN l = PySem.W.Datum.toD (nT l) := by
  show PyData.tuple _ = PyData.tuple _
  unfold nT
  rw [List.map_map]
  rfl
theorem stD_T (s : Stp) : stD s = PySem.W.Datum.toD (stT s) := by
  show PyData.tuple _ = PyData.tuple _
  unfold stT
  rw [List.map_map]
  congr 1
  apply List.map_congr_left
  intro l _
  show PyData.tuple [tN l.1, tN l.2] = PyData.tuple [PySem.W.Datum.toD (nT l.1), PySem.W.Datum.toD (nT l.2)]
  rw [tN_T, tN_T]
theorem eqv_stD (a b : Stp) : PyData.eqv (stD a) (stD b) = decide (a = b) := by
  rw [stD_T, stD_T, PySem.W.Datum.eqv]
  exact decide_eq_decide.mpr ⟨stT_inj, fun e => by rw [e]⟩
theorem stDs_T (l : List Stp) : l.map stD = (l.map stT).map PySem.W.Datum.toD := by
  rw [List.map_map]
  apply List.map_congr_left
  intro s _
  exact stD_T s
theorem alike_stDs (l : List Stp) : PySem.W.AlikeAll (l.map stD) := by
  rw [stDs_T]
  exact PySem.W.alikeAll_datum _
theorem dep_tN (l : List Nat) : (tN l).depth ≤ 1 := dep_tup (depAll_map fun x _ => dep_int _)
theorem dep_stD (s : Stp) : (stD s).depth ≤ 3 := by
  refine dep_tup (k := 2) (depAll_map fun l _ => dep_tup (k := 1) ?_)
  show PyData.depthAll [tN l.1, tN l.2] ≤ 1
  simp only [PyData.depthAll]
  exact Nat.max_le.mpr ⟨dep_tN _, Nat.max_le.mpr ⟨dep_tN _, Nat.zero_le _⟩⟩
theorem lay_tN (l : List Nat) : (tN l).canLay0 = true := lay_tup (layAll_map fun x _ => lay_int _)
theorem lay_stD (s : Stp) : (stD s).canLay0 = true := by
  refine lay_tup (layAll_map fun l _ => lay_tup ?_)
  show PyData.canLayAll0 [tN l.1, tN l.2] = true
  simp only [PyData.canLayAll0, lay_tN, Bool.and_self]
theorem shp_stD (s : Stp) : SeqAt.shaped (stD s) = true := shaped_of (lay_stD s) (dep_stD s)
theorem eqv_pr (a b : Nat × Nat) : PyData.eqv (prD2 a) (prD2 b) = decide (a = b) := by
  have e := PySem.W.Datum.eqv ((a.1 : Int), (a.2 : Int)) ((b.1 : Int), (b.2 : Int))
  refine Eq.trans e (decide_eq_decide.mpr ⟨fun h => ?_, fun h => by rw [h]⟩)
  have e1 := congrArg Prod.fst h
  have e2 := congrArg Prod.snd h
  exact Prod.ext (Int.ofNat.inj e1) (Int.ofNat.inj e2)
theorem shp_pr (a : Nat × Nat) : SeqAt.shaped (prD2 a) = true := by
  refine shaped_of (k := 1) (lay_tup ?_) (dep_tup ?_)
  · simp [PyData.canLayAll0, PyData.canLay0]
  · simp [PyData.depthAll, PyData.depth]
theorem dp_pr {K : PySem.W.Frag} {H : Hp} {p : Addr} {a b : Nat} : Dp K (upd H p (.tup [.int (a : Int), .int (b : Int)])) (.ref p) (prD2 (a, b)) := .tup (SqT.of upd_same) (.cons (.int _) (.cons (.int _) .nil))
theorem at_last {α : Type} (xs : List α) (x : α) : atI (xs ++ [x]) (-1) = some x := by
  have hl : (xs ++ [x]).length = xs.length + 1 := by rw [List.length_append]; rfl
  unfold atI ixN
  rw [hl, if_neg (by omega), if_pos (by omega)]
  have e : ((-1 : Int) + ((xs.length + 1 : Nat) : Int)).toNat = xs.length := by omega
  show (xs ++ [x])[((-1 : Int) + ((xs.length + 1 : Nat) : Int)).toNat]? = some x
  rw [e, List.getElem?_append_right (Nat.le_refl _), Nat.sub_self]
  rfl
end Tk
namespace Tk
open PySem PySem.Spec PyProof.Rows L2
open SX (S)

section
variable {P : Program} {w : World} {K : PySem.W.Frag} {mg : Str → Option Value} {base : Heap} {C SH : Addr}

theorem sc_first_way : FnScope ["pricing", "rest", "m", "n", "way", "i", "j", "some", "step"] ["pricing", "rest", "m", "n"] (defScope (topS 18)) := ⟨rfl, rfl, rfl, by decide +kernel, rfl, by decide +kernel, by decide +kernel⟩
theorem bn_first_way : Bnd "first_way" "first_way" (topS 18) ["pricing", "rest", "m", "n"] := fun _ _ _ _ _ _ us hl => match us, hl with | [_, _, _, _], _ => rfl

theorem c_first_way (T : Txt K mg C SH) : C8.Cal P w K mg base 6 "first_way" (sp_first_way K C) [] := by
  have c_cost_on : C8.Cal P w K mg base 5 "cost_on" (sp_cost_on K C) [] := Tk.c_cost_on T
  have c_ends_at : C8.Cal P w K mg base 1 "ends_at" (sp_ends_at K C) [] := Tk.c_ends_at T
  have c_steps_from : C8.Cal P w K mg base 1 "steps_from" (sp_steps_from K C) [] := Tk.c_steps_from T
  refine calD T.d_first_way bn_first_way sc_first_way (fun vs H Q E h => by obtain ⟨_, _, _, _, _, _, rfl, _⟩ := h; rfl) (fun f cdv A outer s H vs Q E hr h => ?_)
  refine ⟨_, (pss_cons (ps_set (i := 4) sc_first_way.nd rfl (Or.inl rfl) (pe_lst pa_nil))
    (pss_cons (ps_asg (pe_tup (pa_cons pe_int (pa_cons pe_int pa_nil))) (pg_tupK K (n := 2) rfl rfl (pgs_cons (pg_name (i := 5) sc_first_way.nd rfl (Or.inr rfl)) (pgs_cons (pg_name (i := 6) sc_first_way.nd rfl (Or.inr rfl)) pgs_nil))))
    (pss_cons (ps_while PassesOwn.never (pt_cmpR (op_neDK K rfl hr.units) (pe_tup (pa_cons (pv 5) (pa_cons (pv 6) pa_nil))) (pe_tup (pa_cons (pv 2) (pa_cons (pv 3) pa_nil))) (nomark _))
      (pss_cons (ps_setLc (i := 7) (own := [("step", 8)]) rfl sc_first_way.nd rfl rfl (sw_true rfl rfl rfl (by decide +kernel)) (pi_listK K rfl (C8.pe_c c_steps_from hr (by decide) (by rfl) (pa_cons (pv 5) (pa_cons (pv 6) (pa_cons (pv 2) (pa_cons (pv 3) pa_nil)))))) (blkOk_by (N := ["pricing", "rest", "m", "n", "way", "i", "j", "some", "step"]) (sc := defScope (topS 18)) (by decide +kernel)) (fun _ _ _ _ _ => by exact (pg_name (i := 8) sc_first_way.nd rfl (Or.inl rfl))) (fun _ _ _ _ _ => by exact (pts_one (pt_cmpR op_eq (C8.pe_c c_cost_on hr (by decide) (by rfl) (pa_cons (pv 0) (pa_cons (pv 1) (pa_cons (pv 8) (pa_cons (pv 5) (pa_cons (pv 6) pa_nil)))))) (pe_ix (ix_listK K rfl) (pe_ix (ix_listK K rfl) (pv 1) (pv 5) (fun _ _ => rfl)) (pv 6) (fun _ _ => rfl)) (nomark _)))) (fun _ _ _ _ _ => by exact (pv 8)))
      (pss_cons (ps_expr (pe_bm PySem.F.plainAttrs_list PySem.F.slot_list_append PySem.F.type_list_append mt_append (pv 4) (pa_cons (pe_callB (cr_minDK K rfl rfl (un65 hr)) (by rfl) T.min (by decide +kernel) (pa_cons (pv 7) pa_nil)) pa_nil)))
      (pss_one (ps_asg (C8.pe_c c_ends_at hr (by decide) (by rfl) (pa_cons (pe_ix (ix_listK K rfl) (pv 4) (pe_un un_neg pe_int) (fun _ _ => rfl)) (pa_cons (pv 5) (pa_cons (pv 6) pa_nil)))) (pg_tupK K (n := 2) rfl rfl (pgs_cons (pg_name (i := 5) sc_first_way.nd rfl (Or.inr rfl)) (pgs_cons (pg_name (i := 6) sc_first_way.nd rfl (Or.inr rfl)) pgs_nil))))))))
    (pss_one (ps_ret (pe_tupleOfK K rfl (by rfl) T.tuple (pv 4))))))), ?_⟩
  obtain ⟨p, vr, P, g, m, n, rfl, okp, hp, hm, hn, hg, GO, q⟩ := h
  have hm30 : m ≤ 30 := by rw [hm]; exact okp.n1
  have hn30 : n ≤ 30 := by rw [hn]; exact okp.n2
  refine ⟨le_line (by simp), fun o ho => ⟨le_line (by simp), fun t0 ht0 => ⟨t0, _, rfl, SqT.of upd_same, rfl, _, _, rfl, _, _, rfl, rfl, ?_⟩⟩⟩
  have A0 : Acc K S0 H o (upd (upd H o (.lst [])) t0 (.tup [.int 0, .int 0])) [] := acc_kp (le_S0 _) ho (acc_new (Kp.refl _ _) ho) (.of (same_new ht0))
  generalize upd (upd H o (.lst [])) t0 (.tup [.int 0, .int 0]) = H1 at A0
  refine ⟨fun μ σ H' => ∃ y7 y8 i j w, σ = [some (.ref p), some vr, some (.int (m : Int)), some (.int (n : Int)), some (.ref o), some (.int ((i : Nat) : Int)), some (.int ((j : Nat) : Int)), y7, y8] ∧ Acc K S0 H o H' (w.map stD) ∧ Seg m n 0 0 w i j ∧ wayC P w + gv g i j = gv g 0 0 ∧ μ = (m - i) + (n - j),
    ⟨_, none, none, 0, 0, [], rfl, A0, ⟨rfl, rfl⟩, by unfold wayC; simp, rfl⟩, ?_⟩
  rintro μ σ H2 ⟨y7, y8, i, j, w, rfl, A2, sg, hw, rfl⟩
  obtain ⟨hwl, him, hjn⟩ := seg_len sg (Nat.zero_le m) (Nat.zero_le n)
  refine ⟨_, rfl, _, rfl, le_line (by simp), fun z1 hz1 => ⟨_, rfl, _, rfl, le_line (by simp), fun z2 hz2 => ⟨prD2 (i, j), prD2 (m, n), dp_up dp_pr (same_new hz2), dp_pr, shp_pr _, shp_pr _, _, rfl, ?_⟩⟩⟩
  have sz := (same_new (o := .tup [.int (i : Int), .int (j : Int)]) hz1).trans (same_new (o := .tup [.int (m : Int), .int (n : Int)]) hz2)
  have A3 := acc_kp (le_S0 _) ho A2 (.of sz)
  generalize upd (upd H2 z1 (.tup [.int (i : Int), .int (j : Int)])) z2 (.tup [.int (m : Int), .int (n : Int)]) = H3 at A3
  clear A2 sz hz1 hz2
  rw [eqv_pr]
  by_cases hend : (i, j) = (m, n)
  · rw [decide_eq_true hend]
    cases hend
    obtain ⟨acc, ha, hda⟩ := id A3.2
    refine iteF ⟨_, rfl, .inl ⟨o, _, rfl, SqL.of ha, fun z hz => ?_⟩⟩
    have hb := best_end (GO.b m n (Nat.le_refl _) (Nat.le_refl _))
    exact q w _ _ (seg_path sg) (by rw [← hw, hb, Int.add_zero]) (A3.1.same.trans (same_new hz)) (acc_tup ho A3 ha hz)
  · rw [decide_eq_false hend]
    refine iteT ⟨fun σ' H' => ∃ μ', μ' < (m - i) + (n - j) ∧ ∃ y7 y8 i j w, σ' = [some (.ref p), some vr, some (.int (m : Int)), some (.int (n : Int)), some (.ref o), some (.int ((i : Nat) : Int)), some (.int ((j : Nat) : Int)), y7, y8] ∧ Acc K S0 H o H' (w.map stD) ∧ Seg m n 0 0 w i j ∧ wayC P w + gv g i j = gv g 0 0 ∧ μ' = (m - i) + (n - j), fun _ _ h => h, ?_⟩
    refine ⟨_, rfl, _, rfl, _, rfl, _, rfl, i, j, m, n, rfl, hm30, hn30, fun v H4 s4 d4 => ?_⟩
    obtain ⟨av, xs, rfl, hxs, hds⟩ := dp_lst d4
    have hxl : xs.length = (stpP i j m n).length := by rw [dpa_len hds, List.length_map]
    have hxl8 : xs.length ≤ 8 := by rw [hxl]; exact stpP_len _ _ _ _
    have hxs' := sqL_mono (ex_same _ _) hxs
    refine ⟨av, rfl, ⟨_, hxs'⟩, fun Z hZ => lc_genT (K := K) (walk_list (xs := xs)) (dm H3) (fun k es => ∃ ss : List Stp, es = ss.map stD ∧ (∀ s ∈ ss, s ∈ stpP i j m n ∧ gv g i j = stC P s + gv g (endP s i j).1 (endP s i j).2) ∧ (∀ k' s, k' < k → (stpP i j m n)[k']? = some s → gv g i j = stC P s + gv g (endP s i j).1 (endP s i j).2 → ss ≠ [])) hZ (lt_line (by omega)) (same_dm s4)
      ⟨[], rfl, fun _ h => absurd h List.not_mem_nil, fun _ _ h => absurd h (Nat.not_lt_zero _)⟩ (fun H' s => sqL_mono s hxs') ?_ ?_⟩
    · rintro k x H5 H' es hk s5 ⟨ss, rfl, hss, hne⟩ ⟨rfl, hx⟩ Q' Qn q1 q2
      obtain ⟨d, hd1, hdx⟩ := dpa_of hds hx
      obtain ⟨s0, hs0, rfl⟩ := map_at hd1
      have hmem := List.mem_of_getElem? hs0
      have s45 := A3.1.same.trans (s4.trans s5)
      obtain ⟨e1, e2, e3, e4, e5⟩ := endP_le hmem him hjn
      obtain ⟨r, rows, c, cells, rfl, hrs, hra, hcs, hca⟩ := grd_at hg GO.gr him hjn
      refine ⟨rfl, _, rfl, _, rfl, _, rfl, _, rfl, _, rfl, p, _, _, P, g, s0, i, j, m, n, rfl, okp, prAt_mono s45 hp, dp_up hg s45, GO.gr, dp_up hdx ((ex_same _ _).trans s5), stp_ok hmem (by omega) (by omega), e2, e4, fun H6 s6 => ?_⟩
      have s46 := s45.trans s6
      refine ⟨_, rfl, _, rfl, _, _, _, _, rfl, rfl, sqL_mono s46 hrs, atI_nat hra, _, rfl, _, _, _, _, rfl, rfl, sqL_mono s46 hcs, atI_nat hca, rfl, _, rfl, ?_⟩
      by_cases hc : gv g i j = stC P s0 + gv g (endP s0 i j).1 (endP s0 i j).2
      · rw [decide_eq_true (by rw [hc])]
        refine iteT ⟨_, rfl, q1 _ _ (stD s0) s6 (.inr hdx) ⟨ss ++ [s0], by rw [List.map_append]; rfl, fun s hs => ?_, fun _ _ _ _ _ => by simp⟩⟩
        rcases List.mem_append.mp hs with hs | hs
        · exact hss s hs
        · rw [List.mem_singleton.mp hs]; exact ⟨hmem, hc⟩
      · rw [decide_eq_false (fun e => hc (by injection e with e; exact e.symm))]
        refine iteF (q2 _ s6 ⟨ss, rfl, hss, fun k' s hk' hs hg' => ?_⟩)
        by_cases e : k' < k
        · exact hne k' s e hs hg'
        · have : k' = k := by omega
          subst this
          rw [hs0] at hs
          cases hs
          exact absurd hg' hc
    · rintro H5 es s5 ⟨ss, rfl, hss, hne⟩ d5
      have hss0 : ss ≠ [] := by
        rcases (GO.b i j him hjn).eq with ⟨h0, _⟩ | ⟨s, hs, hge⟩
        · obtain ⟨ha, hb⟩ := stpP_nil h0 him hjn
          exact absurd (by rw [ha, hb]) hend
        · obtain ⟨k', hk'⟩ := List.getElem?_of_mem hs
          exact hne k' s (by rw [hxl]; exact at_lt hk') hk' hge
      obtain ⟨aZ, zs, e, hzs, hdz⟩ := dp_lst d5
      cases e
      obtain ⟨acc, ha, hda⟩ := id A3.2
      have s45 := s4.trans s5
      have A5 := acc_kp (le_S0 _) ho A3 (.of s45)
      have ha5 := s45 _ _ ha
      refine ⟨_, rfl, .inl ⟨rfl, _, SqL.of ha5⟩, _, rfl, Z, zs, ss.map stD, rfl, sqL_mono (ex_same _ _) hzs, dpa_up hdz (ex_same _ _), by simpa using hss0, alike_stDs ss, Nat.le_trans (depAll_map fun s _ => dep_stD s) (by decide), fun k x hx => ?_⟩
      obtain ⟨d, hd1, hdx⟩ := dpa_of hdz hx
      obtain ⟨s0, hs0, rfl⟩ := map_at hd1
      obtain ⟨hmem, hge⟩ := hss s0 (List.mem_of_getElem? hs0)
      obtain ⟨e1, e2, e3, e4, e5⟩ := endP_le hmem him hjn
      have hal : acc.length ≤ 60 := by
        rw [acc_len A3 ha, List.length_map]; omega
      have A6 := acc_push (le_S0 _) ho A3 ha (.of s45) hdx
      refine ⟨o, _, _, rfl, rfl, ha5, lt_line (by omega), _, rfl, _, rfl, _, _, _, _, rfl, rfl, SqL.of upd_same, at_last _ _, _, rfl, _, rfl, ?_⟩
      refine ⟨x, s0, i, j, rfl, dp_up hdx ?_, (stp_len hmem).2, fun v7 H7 s7 d7 => ?_⟩
      · intro a u ea
        obtain ⟨ea1, ea2⟩ := of_ex ea
        rw [upd_ne (fun z => by rw [z, dm_some ha] at ea1; cases ea1)]
        exact ea2
      · obtain ⟨t7, u7, v7', rfl, h7, hu7, hv7⟩ := dp_pair d7
        have e7 := dp_int hu7
        have e8 := dp_int hv7
        subst e7 e8
        have A7 := acc_kp (le_S0 _) ho A6 (.of s7)
        refine ⟨t7, _, rfl, sqT_mono (ex_same _ _) h7, rfl, _, _, rfl, _, _, rfl, rfl, _, ?_, _, _, (endP s0 i j).1, (endP s0 i j).2, w ++ [s0], rfl, acc_go A7 (by rw [List.map_append]; rfl), seg_snoc sg hmem, ?_, rfl⟩
        · omega
        · rw [wayC_snoc]; omega
end
end Tk
namespace Tk
open PySem PySem.Spec PyProof.Rows L2
open SX (S)

section
variable {P : Program} {w : World} {K : PySem.W.Frag} {mg : Str → Option Value} {base : Heap} {C SH : Addr}

theorem sc_least_way : FnScope ["ones", "others", "words", "prices", "pricing", "rest", "cost", "paper", "row", "left"] ["ones", "others", "words", "prices"] (defScope (topS 19)) := ⟨rfl, rfl, rfl, by decide +kernel, rfl, by decide +kernel, by decide +kernel⟩
theorem bn_least_way : Bnd "least_way" "least_way" (topS 19) ["ones", "others", "words", "prices"] := fun _ _ _ _ _ _ us hl => match us, hl with | [_, _, _, _], _ => rfl
theorem made_same {H H' : Hp} {x dx C : Addr} (hx : H x = none) (hdx : H dx = none) (hne : dx ≠ x) (k : Kp (one x) (upd (upd H dx (.own x)) x (.ins C dx [])) H') : Same H H' := fun a u e => by
  refine k.1 a u (one_ne (ne_of_none e hx)) ?_
  rw [upd_ne (ne_of_none e hx), upd_ne (ne_of_none e hdx)]
  exact e
theorem made_in {H : Hp} {x dx C : Addr} (hx : H x = none) (hdx : H dx = none) (hne : dx ≠ x) : Same H (upd (upd H dx (.own x)) x (.ins C dx [])) := fun a u e => by
  rw [upd_ne (ne_of_none e hx), upd_ne (ne_of_none e hdx)]
  exact e
theorem dpa_list {K : PySem.W.Frag} {H : Hp} {v : V} {ns : List Int} (h : Dp K H v (.list (ns.map .int))) : ∃ a, v = .ref a ∧ SqL K H a (ns.map V.int) := by
  obtain ⟨a, xs, rfl, hs, hd⟩ := dp_lst h
  rw [dpAll_ints hd] at hs
  exact ⟨a, rfl, hs⟩
theorem sq_of {K : PySem.W.Frag} {H : Hp} {D : Addr} {ds : List PyData} (d : Dp K H (.ref D) (.list ds)) : ∃ xs, SqL K H D xs ∧ DpAll K H xs ds := by
  obtain ⟨a, xs, e, h1, h2⟩ := dp_lst d
  cases e
  exact ⟨xs, h1, h2⟩
theorem c_least_way (T : Txt K mg C SH) : C8.Cal P w K mg base 7 "least_way" (sp_least_way K C) [] := by
  have c_Pricing : C8.Mak P w K mg base 3 "Pricing" C (sp_init K C) [] := Tk.c_init T
  have c_costs_left : C8.Cal P w K mg base 6 "costs_left" (sp_costs_left K C) [] := Tk.c_costs_left T
  have c_first_way : C8.Cal P w K mg base 6 "first_way" (sp_first_way K C) [] := Tk.c_first_way T
  refine calD T.d_least_way bn_least_way sc_least_way (fun vs H Q E h => by obtain ⟨_, _, _, _, _, rfl, _⟩ := h; rfl) (fun f cdv A outer s H vs Q E hr h => ?_)
  refine ⟨_, (pss_cons (ps_set (i := 4) sc_least_way.nd rfl (Or.inl rfl) (C8.pe_mk c_Pricing hr (by decide) (by rfl) (pa_cons (pv 0) (pa_cons (pv 1) (pa_cons (pv 2) (pa_cons (pv 3) pa_nil))))))
    (pss_cons (ps_set (i := 5) sc_least_way.nd rfl (Or.inl rfl) (C8.pe_c c_costs_left hr (by decide) (by rfl) (pa_cons (pv 4) (pa_cons (pe_callB (call_lenK K rfl) (by rfl) T.len (by decide +kernel) (pa_cons (pv 0) pa_nil)) (pa_cons (pe_callB (call_lenK K rfl) (by rfl) T.len (by decide +kernel) (pa_cons (pv 1) pa_nil)) pa_nil)))))
    (pss_cons (ps_set (i := 6) sc_least_way.nd rfl (Or.inr rfl) (pe_ix (ix_listK K rfl) (pe_ix (ix_listK K rfl) (pv 5) pe_int (fun _ _ => rfl)) pe_int (fun _ _ => rfl)))
    (pss_cons (ps_set (i := 7) sc_least_way.nd rfl (Or.inl rfl) (pe_tupleOfK K rfl (by rfl) T.tuple (pe_lc (own := [("row", 8)]) (tt := tYes) rfl sc_least_way.nd (pi_listK K rfl (pv 5)) (blkOk_by (N := ["ones", "others", "words", "prices", "pricing", "rest", "cost", "paper", "row", "left"]) (sc := defScope (topS 19)) (by decide +kernel)) (fun _ _ _ _ _ => by exact (pg_name (i := 8) sc_least_way.nd rfl (Or.inl rfl))) (fun _ _ _ _ _ => by exact pts_nil) (fun _ _ _ _ _ => by exact (pe_tupleOfK K rfl (by rfl) T.tuple (pe_lc (own := [("left", 9)]) (tt := tYes) rfl sc_least_way.nd (pi_listK K rfl (pv 8)) (blkOk_eq (N := ["ones", "others", "words", "prices", "pricing", "rest", "cost", "paper", "row", "left"]) (sc := scIn_least_way) rfl (by kernel_rfl) (by decide +kernel)) (fun _ _ _ _ _ => by exact (pg_name (i := 9) sc_least_way.nd rfl (Or.inl rfl))) (fun _ _ _ _ _ => by exact pts_nil) (fun _ _ _ _ _ => by exact (pe_op op_sub (pv 6) (pv 9)))))))))
    (pss_one (ps_ret (pe_tup (pa_cons (pv 6) (pa_cons (C8.pe_c c_first_way hr (by decide) (by rfl) (pa_cons (pv 4) (pa_cons (pv 5) (pa_cons (pe_callB (call_lenK K rfl) (by rfl) T.len (by decide +kernel) (pa_cons (pv 0) pa_nil)) (pa_cons (pe_callB (call_lenK K rfl) (by rfl) T.len (by decide +kernel) (pa_cons (pv 1) pa_nil)) pa_nil))))) (pa_cons (pv 7) pa_nil)))))))))), ?_⟩
  obtain ⟨a, b, w, pr, P, rfl, okp, ha, hb, hw, hpr, q⟩ := h
  obtain ⟨aa, xa, rfl, hsa, hda⟩ := dp_tup ha
  obtain ⟨ab, xb, rfl, hsb, hdb⟩ := dp_tup hb
  have la : xa.length = P.ones.length := by rw [dpa_len hda, List.length_map]
  have lb : xb.length = P.others.length := by rw [dpa_len hdb, List.length_map]
  refine ⟨_, rfl, _, rfl, _, rfl, _, rfl, fun x dx hx hdx hne => ?_⟩
  have si := made_in (C := C) hx hdx hne
  refine ⟨x, dx, _, _, _, _, P, rfl, upd_same, okp, dp_up ha si, dp_up hb si, dp_up hw si, dp_up hpr si, fun H1 k1 hP => ⟨rfl, ?_⟩⟩
  have s1 := made_same hx hdx hne k1
  clear k1 si
  refine ⟨_, rfl, _, rfl, _, _, rfl, .inr (sqT_mono s1 hsa), _, rfl, _, _, rfl, .inr (sqT_mono s1 hsb), x, P, P.ones.length, P.others.length, by rw [la, lb]; rfl, okp, hP, rfl, rfl, fun g v H2 GO s2 d2 => ?_⟩
  have d2' : Dp K H2 v (gD g) := dp_up d2 (ex_same _ _)
  obtain ⟨r, rows, c, cells, rfl, hrs, hra, hcs, hca⟩ := grd_at d2' GO.gr (Nat.zero_le _) (Nat.zero_le _)
  refine ⟨_, rfl, _, _, _, _, rfl, rfl, hrs, atI_nat (j := 0) hra, _, _, _, _, rfl, rfl, hcs, atI_nat (j := 0) hca, ?_⟩
  have s12 := s1.trans s2
  obtain ⟨r', rows', e, hrs', hdr⟩ := dp_lst d2'
  cases e
  have n1 := okp.n1
  have n2 := okp.n2
  have hrl' : rows'.length = P.ones.length + 1 := by rw [dpa_len hdr, List.length_map, GO.gr.rows]
  refine ⟨_, rfl, r, rfl, ⟨_, hrs'⟩, fun D hD => lcL_map (K := K) hrs' ((papr g).map fun row => PyData.tuple (row.map .int)) (by unfold papr; rw [List.length_map, List.length_map, GO.gr.rows, hrl']) hD (lt_line (by omega)) ?_ ?_⟩
  · intro k y e H3 hy he s3 Q' q'
    obtain ⟨d, hd1, hdy⟩ := dpa_of hdr hy
    obtain ⟨row, hrow, rfl⟩ := map_at hd1
    obtain ⟨row', hrow', rfl⟩ := map_at he
    unfold papr at hrow'
    obtain ⟨row2, hrow2, rfl⟩ := map_at hrow'
    rw [hrow] at hrow2
    cases hrow2
    obtain ⟨ar, rfl, hsr⟩ := dpa_list hdy
    have hsr' := sqL_mono s3 hsr
    have hcl := GO.gr.cols row (List.mem_of_getElem? hrow)
    refine ⟨rfl, _, rfl, ar, rfl, ⟨_, hsr'⟩, fun D2 hD2 => lcL_map (K := K) hsr' ((row.map fun x => gv g 0 0 - x).map .int) (by rw [List.length_map, List.length_map, List.length_map]) hD2 (by rw [List.length_map]; exact lt_line (by omega)) ?_ ?_⟩
    · intro k2 y2 e2 H4 hy2 he2 s4 Q2 q2
      obtain ⟨z, hz, rfl⟩ := map_at hy2
      obtain ⟨z', hz', rfl⟩ := map_at he2
      obtain ⟨z2, hz2, rfl⟩ := map_at hz'
      rw [hz] at hz2
      cases hz2
      exact ⟨rfl, _, rfl, _, rfl, _, _, rfl, rfl, q2 _ _ (Same.refl _) (.int _)⟩
    · intro H4 s4 d4
      refine .inl ⟨D2, _, rfl, sqL_of d4, fun z hz => q' _ _ (s4.trans (same_new hz)) ?_⟩
      exact dp_newT s4 hz (ints_dp _)
  · intro H3 s3 d3
    obtain ⟨ys, hys, hdys⟩ := sq_of d3
    refine .inl ⟨D, _, rfl, sqL_mono (ex_same _ _) hys, fun z hz => ?_⟩
    have dz : Dp K (nw H2 (upd H3 z (.tup ys))) (.ref z) (pD (papr g)) := .tup (nw_newT (s3.free hz) upd_same) (dpa_up hdys (nw_ex (same_new hz)))
    have s3z := s3.trans (same_new (o := .tup ys) hz)
    generalize upd H3 z (.tup ys) = H4 at dz s3z
    have s14 := s12.trans s3z
    refine ⟨_, rfl, _, rfl, _, rfl, _, rfl, _, _, rfl, .inr (sqT_mono s14 hsa), _, rfl, _, _, rfl, .inr (sqT_mono s14 hsb), x, _, P, g, P.ones.length, P.others.length, by rw [la, lb]; rfl, okp, prAt_mono (s2.trans s3z) hP, rfl, rfl, dp_up d2' s3z, GO, fun w' v5 H5 hpath hcost s5 d5 => ⟨_, rfl, le_line (by simp), fun p6 h6 => ?_⟩⟩
    refine q g w' _ _ GO hpath hcost ((s14.trans s5).trans (same_new h6)) ?_
    refine dp_newT (s14.trans s5) h6 (.cons (.int _) (.cons (dp_up d5 (nw_nw (same_dm s14))) (.cons (dp_up (dp_up dz (nw_ex s5)) (nw_nw (same_dm s12))) .nil)))
end
end Tk
namespace Tk
open PySem PySem.Spec PyProof.Rows L2
open SX (S)
/-! ### isinstance -/
section
variable {K : PySem.W.Frag} {H : Hp} {a : Addr} {xs : List V} {Q : VK}
theorem ty_tup (h : SqT K H a xs) : TyX K H (.ref a) (.type "tuple") := by
  rcases h with (h | ⟨o, h⟩) | ⟨o, its, n, h1, h2, h3⟩
  · exact .base (.tup h)
  · exact .fTuple h
  · exact .kTuple h1 h2
theorem k_tt : PySem.W.kitOne K (.type "tuple") (.type "tuple") = some true := kit_ty (by decide +kernel)
theorem k_ii : PySem.W.kitOne K (.type "int") (.type "int") = some true := kit_ty (by decide +kernel)
theorem k_ib : PySem.W.kitOne K (.type "int") (.type "bool") = some false := kit_ty (by decide +kernel)
theorem k_bb : PySem.W.kitOne K (.type "bool") (.type "bool") = some true := kit_ty (by decide +kernel)
end
theorem sq_tup {K : PySem.W.Frag} {H : Hp} {a : Addr} {ds : List PyData} (h : Dp K H (.ref a) (.tuple ds)) : ∃ xs, SqT K H a xs ∧ DpAll K H xs ds := by
  obtain ⟨a', xs, e, hs, hd⟩ := dp_tup h
  cases e
  exact ⟨xs, hs, hd⟩
theorem dp_ints {K : PySem.W.Frag} {H : Hp} {v : V} {ns : List Int} (h : Dp K H v (.tuple (ns.map .int))) : ∃ a, v = .ref a ∧ SqT K H a (ns.map V.int) := by
  obtain ⟨a, xs, rfl, hs, hd⟩ := dp_tup h
  rw [dpAll_ints hd] at hs
  exact ⟨a, rfl, hs⟩
theorem tN_int (l : List Nat) : tN l = .tuple ((l.map fun (n : Nat) => (n : Int)).map .int) := by unfold tN; rw [List.map_map]; rfl
/-- a grid of tuples, its cells -/
theorem pgrd_at {K : PySem.W.Frag} {H : Hp} {vr : V} {g : List (List Int)} {m n a b : Nat} (hd : Dp K H vr (pD g)) (G : Grd m n g) (ha : a ≤ m) (hb : b ≤ n) :
    ∃ r rows c cells, vr = .ref r ∧ SqT K H r rows ∧ rows[a]? = some (.ref c) ∧ SqT K H c cells ∧ cells[b]? = some (.int (gv g a b)) := by
  obtain ⟨r, rows, rfl, hs, hr⟩ := dp_tup hd
  have hal : a < g.length := by rw [G.rows]; omega
  obtain ⟨v, hv, hdv⟩ := dpa_get (i := a) (d := .tuple (g[a].map .int)) hr (by rw [List.getElem?_map, List.getElem?_eq_getElem hal]; rfl)
  obtain ⟨c, cells, rfl, hc, hcs⟩ := dp_tup hdv
  have e := dpAll_ints hcs
  subst e
  have hbl : b < g[a].length := by rw [G.cols _ (List.getElem_mem hal)]; omega
  refine ⟨r, rows, c, _, rfl, hs, hv, hc, ?_⟩
  rw [List.getElem?_map, List.getElem?_eq_getElem hbl]
  unfold gv
  rw [List.getD_eq_getElem?_getD (l := g), List.getElem?_eq_getElem hal, Option.getD_some, List.getD_eq_getElem?_getD, List.getElem?_eq_getElem hbl]
  rfl
/-! ### the promises of the check -/
def Ups (P : Prc) (m n : Nat) (g : List (List Int)) : Prop := ∀ i j s, i ≤ m → j ≤ n → s ∈ stpP i j m n → gv g (endP s i j).1 (endP s i j).2 - gv g i j ≤ stC P s
def sml3 (s : Stp) : Prop := s.length ≤ 2 ∧ ∀ l ∈ s, l.1.length ≤ 3 ∧ l.2.length ≤ 3
def sp_are_wholes (K : PySem.W.Frag) (C : Addr) : Sp := fun vs H Q _ => ∃ (v : V) (ns : List Int), vs = [v] ∧ Dp K H v (.tuple (ns.map .int)) ∧ ns.length ≤ 1000 ∧ RetF (.bl true) H Q
def sp_is_step (K : PySem.W.Frag) (C : Addr) : Sp := fun vs H Q _ => ∃ (v : V) (s : Stp), vs = [v] ∧ Dp K H v (stD s) ∧ sml3 s ∧ RetF (.bl true) H Q
def sp_way_cost (K : PySem.W.Frag) (C : Addr) : Sp := fun vs H Q _ => ∃ (p : Addr) (v : V) (P : Prc) (m n : Nat) (w : List Stp), vs = [.ref p, v, .int (m : Int), .int (n : Int)] ∧ okP P ∧ PrAt K C H p P ∧ m = P.ones.length ∧ n = P.others.length ∧
  Dp K H v (wayD w) ∧ Path m n 0 0 w ∧ RetF (.int (wayC P w)) H Q
def sp_is_grid (K : PySem.W.Frag) (C : Addr) : Sp := fun vs H Q _ => ∃ (v : V) (m n : Nat) (g : List (List Int)), vs = [v, .int (m : Int), .int (n : Int)] ∧ m ≤ 30 ∧ n ≤ 30 ∧ Dp K H v (pD g) ∧ Grd m n g ∧ RetF (.bl true) H Q
def sp_holds (K : PySem.W.Frag) (C : Addr) : Sp := fun vs H Q _ => ∃ (p : Addr) (v : V) (P : Prc) (m n : Nat) (g : List (List Int)), vs = [.ref p, v, .int (m : Int), .int (n : Int)] ∧ okP P ∧ PrAt K C H p P ∧ m = P.ones.length ∧ n = P.others.length ∧
  Dp K H v (pD g) ∧ Grd m n g ∧ Ups P m n g ∧ RetF (.bl true) H Q
def sp_shows_found (K : PySem.W.Frag) (C : Addr) : Sp := fun vs H Q _ => ∃ (a b w pr t : V) (P : Prc) (way : List Stp) (g : List (List Int)), vs = [a, b, w, pr, t] ∧ okP P ∧ Dp K H a (txsD P.ones) ∧ Dp K H b (txsD P.others) ∧ Dp K H w (knD P) ∧ Dp K H pr (prsD P) ∧
  Dp K H t (tolD (wayC P way) way g) ∧ Path P.ones.length P.others.length 0 0 way ∧ Grd P.ones.length P.others.length g ∧ Ups P P.ones.length P.others.length g ∧ gv g 0 0 = 0 ∧ RetF (.bl (decide (gv g P.ones.length P.others.length = wayC P way))) H Q
theorem stp_sml {i j m n : Nat} {s : Stp} (h : s ∈ stpP i j m n) : sml3 s := by
  refine ⟨(stp_len h).2, ?_⟩
  cases mem_stpP.mp h with
  | left h => intro l hl; rw [List.mem_singleton.mp hl]; simp
  | right h => intro l hl; rw [List.mem_singleton.mp hl]; simp
  | pair p hp h1 h2 =>
    have := shp_pos hp
    intro l hl; rw [List.mem_singleton.mp hl]
    exact ⟨by simp; omega, by simp; omega⟩
  | cross h1 h2 =>
    intro l hl
    simp only [List.mem_cons, List.not_mem_nil, or_false] at hl
    rcases hl with hl | hl <;> rw [hl] <;> simp
theorem any_stD (l : List Stp) (s : Stp) : ((l.map stD).any fun z => PyData.eqv z (stD s)) = decide (s ∈ l) := by
  rw [Bool.eq_iff_iff, List.any_eq_true, decide_eq_true_eq]
  constructor
  · rintro ⟨z, hz, e⟩
    obtain ⟨t, ht, rfl⟩ := List.mem_map.mp hz
    rw [eqv_stD, decide_eq_true_eq] at e
    rw [← e]; exact ht
  · intro h
    exact ⟨stD s, List.mem_map_of_mem h, by rw [eqv_stD]; exact decide_eq_true rfl⟩
theorem shp_stDs (l : List Stp) : SeqAt.shaped (.list (l.map stD)) = true := shaped_of (k := 4) (lay_lst (layAll_map fun s _ => lay_stD s)) (dep_lst (depAll_map fun s _ => dep_stD s))
end Tk
namespace Tk
open PySem PySem.Spec PyProof.Rows L2
open SX (S)

section
variable {P : Program} {w : World} {K : PySem.W.Frag} {mg : Str → Option Value} {base : Heap} {C SH : Addr}

theorem sc_are_wholes : FnScope ["thing", "part"] ["thing"] (defScope (topS 21)) := ⟨rfl, rfl, rfl, by decide +kernel, rfl, by decide +kernel, by decide +kernel⟩
theorem bn_are_wholes : Bnd "are_wholes" "are_wholes" (topS 21) ["thing"] := fun _ _ _ _ _ _ us hl => match us, hl with | [_], _ => rfl

theorem c_are_wholes (T : Txt K mg C SH) : C8.Cal P w K mg base 1 "are_wholes" (sp_are_wholes K C) [] := by
  refine calD T.d_are_wholes bn_are_wholes sc_are_wholes (fun vs H Q E h => by obtain ⟨_, _, rfl, _⟩ := h; rfl) (fun f cdv A outer s H vs Q E hr h => ?_)
  refine ⟨_, (pss_cons (ps_if (pt_not (pt_val (pe_callB (call_isiK' K rfl) (by rfl) T.isinstance (by decide +kernel) (pa_cons (pv 0) (pa_cons (pe_bltn (by rfl) T.tuple (v := .ty "tuple") (by decide +kernel) rfl) pa_nil))))) (pss_one (ps_ret pe_bl)) pss_nil)
    (pss_one (ps_ret (pe_callB (cr_allK K rfl rfl) (by rfl) T.all (by decide +kernel) (pa_cons (pe_lc (own := [("part", 1)]) (tt := tYes) rfl sc_are_wholes.nd (pi_tupK K rfl (pv 0)) (blkOk_by (N := ["thing", "part"]) (sc := defScope (topS 21)) (by decide +kernel)) (fun _ _ _ _ _ => by exact (pg_name (i := 1) sc_are_wholes.nd rfl (Or.inl rfl))) (fun _ _ _ _ _ => by exact pts_nil) (fun _ _ _ _ _ => by exact (pe_and (pe_callB (call_isiK' K rfl) (by rfl) T.isinstance (by decide +kernel) (pa_cons (pv 1) (pa_cons (pe_bltn (by rfl) T.int (v := .ty "int") (by decide +kernel) rfl) pa_nil))) (pe_one (pe_not (pe_callB (call_isiK' K rfl) (by rfl) T.isinstance (by decide +kernel) (pa_cons (pv 1) (pa_cons (pe_bltn (by rfl) T.bool (v := .ty "bool") (by decide +kernel) rfl) pa_nil)))))))) pa_nil))))), ?_⟩
  obtain ⟨v, ns, rfl, hd, hl, q⟩ := h
  obtain ⟨a, rfl, hs⟩ := dp_ints hd
  refine ⟨_, rfl, _, _, _, _, true, rfl, .ty _, ty_tup hs, k_tt, _, rfl, iteF ⟨_, rfl, a, rfl, ⟨_, hs⟩, fun D hD => lcT_map (K := K) hs ((ns.map fun _ => true).map .bool) (by simp) hD (by rw [List.length_map]; exact lt_line (by omega)) ?_ ?_⟩⟩
  · intro k x e H2 hx he s2 Q' q'
    obtain ⟨i, hi, rfl⟩ := map_at hx
    obtain ⟨b, hb, rfl⟩ := map_at he
    obtain ⟨i', hi', rfl⟩ := map_at hb
    exact ⟨rfl, _, rfl, _, _, _, _, true, rfl, .ty _, .base (.int _), k_ii, _, rfl, iteT ⟨_, rfl, _, _, _, _, false, rfl, .ty _, .base (.int _), k_ib, _, rfl, q' _ _ (Same.refl _) (.bl _)⟩⟩
  · intro H2 s2 d2
    refine ⟨D, _, rfl, sqL_ofB d2, ?_⟩
    rw [show ((ns.map fun _ => true).all id) = true by simp]
    exact q H2 s2
end
end Tk
namespace Tk
open PySem PySem.Spec PyProof.Rows L2
open SX (S)

section
variable {P : Program} {w : World} {K : PySem.W.Frag} {mg : Str → Option Value} {base : Heap} {C SH : Addr}

theorem sc_is_step : FnScope ["thing", "link"] ["thing"] (defScope (topS 22)) := ⟨rfl, rfl, rfl, by decide +kernel, rfl, by decide +kernel, by decide +kernel⟩
theorem bn_is_step : Bnd "is_step" "is_step" (topS 22) ["thing"] := fun _ _ _ _ _ _ us hl => match us, hl with | [_], _ => rfl

theorem c_is_step (T : Txt K mg C SH) : C8.Cal P w K mg base 2 "is_step" (sp_is_step K C) [] := by
  have c_are_wholes : C8.Cal P w K mg base 1 "are_wholes" (sp_are_wholes K C) [] := Tk.c_are_wholes T
  refine calD T.d_is_step bn_is_step sc_is_step (fun vs H Q E h => by obtain ⟨_, _, rfl, _⟩ := h; rfl) (fun f cdv A outer s H vs Q E hr h => ?_)
  refine ⟨_, (pss_cons (ps_if (pt_not (pt_val (pe_callB (call_isiK' K rfl) (by rfl) T.isinstance (by decide +kernel) (pa_cons (pv 0) (pa_cons (pe_bltn (by rfl) T.tuple (v := .ty "tuple") (by decide +kernel) rfl) pa_nil))))) (pss_one (ps_ret pe_bl)) pss_nil)
    (pss_cons (ps_for PassesOwn.never rfl (pi_tupK K rfl (pv 0)) (pg_name (i := 1) sc_is_step.nd rfl (Or.inl rfl))
      (pss_one (ps_if (PW.pt (pw_or (pt_not (pt_val (pe_callB (call_isiK' K rfl) (by rfl) T.isinstance (by decide +kernel) (pa_cons (pv 1) (pa_cons (pe_bltn (by rfl) T.tuple (v := .ty "tuple") (by decide +kernel) rfl) pa_nil))))) (pw_or (pt_cmpR op_ne (pe_callB (call_lenK K rfl) (by rfl) T.len (by decide +kernel) (pa_cons (pv 1) pa_nil)) pe_int (nomark _)) (pw_or (pt_not (pt_val (C8.pe_c c_are_wholes hr (by decide) (by rfl) (pa_cons (pe_ix (ix_tupK K rfl) (pv 1) pe_int (fun _ _ => rfl)) pa_nil)))) (pw_or1 (pt_not (pt_val (C8.pe_c c_are_wholes hr (by decide) (by rfl) (pa_cons (pe_ix (ix_tupK K rfl) (pv 1) pe_int (fun _ _ => rfl)) pa_nil))))))))) (pss_one (ps_ret pe_bl)) pss_nil)))
    (pss_one (ps_ret pe_bl)))), ?_⟩
  obtain ⟨v, st, rfl, hd, ⟨hl, hls⟩, q⟩ := h
  obtain ⟨a, xs, rfl, hs, hds⟩ := dp_tup hd
  refine ⟨_, rfl, _, _, _, _, true, rfl, .ty _, ty_tup hs, k_tt, _, rfl, iteF ⟨_, rfl, a, rfl, ⟨_, hs⟩, for_tup (K := K) (a := a) (xs := xs) (fun t σ H' => ∃ y, σ = [some (.ref a), y] ∧ Same H H') ⟨none, rfl, Same.refl _⟩ (fun t σ H' _ ⟨_, _, s⟩ => sqT_mono s hs) ?_ ?_⟩⟩
  · rintro t x σ H' hx ⟨y, rfl, s⟩
    obtain ⟨d, hd1, hdx⟩ := dpa_of hds hx
    obtain ⟨l, hll, rfl⟩ := map_at hd1
    obtain ⟨b, u, v, rfl, hb, hu, hv⟩ := dp_pair hdx
    obtain ⟨l1, l2⟩ := hls l (List.mem_of_getElem? hll)
    have hb' := sqT_mono s hb
    refine ⟨_, rfl, _, _, _, _, true, rfl, .ty _, ty_tup hb', k_tt, _, rfl, iteF ⟨_, rfl, b, _, rfl, .inr hb', rfl, _, rfl, iteF ?_⟩⟩
    refine ⟨_, rfl, _, _, _, _, rfl, rfl, hb', atI_nat (j := 0) rfl, u, l.1.map fun (n : Nat) => (n : Int), rfl, ?_, ?_, fun H2 s2 => ⟨_, rfl, iteF ?_⟩⟩
    · rw [← tN_int]; exact dp_up hu s
    · rw [List.length_map]; omega
    refine ⟨_, rfl, _, _, _, _, rfl, rfl, sqT_mono s2 hb', atI_nat (j := 1) rfl, v, l.2.map fun (n : Nat) => (n : Int), rfl, ?_, ?_, fun H3 s3 => ⟨_, rfl, iteF ?_⟩⟩
    · rw [← tN_int]; exact dp_up hv (s.trans s2)
    · rw [List.length_map]; omega
    exact ⟨_, rfl, s.trans (s2.trans s3)⟩
  · rintro σ H' ⟨y, rfl, s⟩
    exact q H' s
end
end Tk
namespace Tk
open PySem PySem.Spec PyProof.Rows L2
open SX (S)

section
variable {P : Program} {w : World} {K : PySem.W.Frag} {mg : Str → Option Value} {base : Heap} {C SH : Addr}

theorem sc_way_cost : FnScope ["pricing", "way", "m", "n", "cost", "i", "j", "step"] ["pricing", "way", "m", "n"] (defScope (topS 23)) := ⟨rfl, rfl, rfl, by decide +kernel, rfl, by decide +kernel, by decide +kernel⟩
theorem bn_way_cost : Bnd "way_cost" "way_cost" (topS 23) ["pricing", "way", "m", "n"] := fun _ _ _ _ _ _ us hl => match us, hl with | [_, _, _, _], _ => rfl
theorem path_at {m n : Nat} : ∀ {w : List Stp} {i j t k l : Nat}, Path m n i j w → Seg m n i j (w.take t) k l → Path m n k l (w.drop t)
  | [], _, _, _, _, _, h, sg => by
    rw [List.take_nil] at sg
    obtain ⟨rfl, rfl⟩ := sg
    rw [List.drop_nil]; exact h
  | _ :: _, _, _, 0, _, _, h, sg => by
    obtain ⟨rfl, rfl⟩ := sg
    exact h
  | s :: w, i, j, t + 1, k, l, h, sg => by
    rw [List.take_succ_cons] at sg
    rw [List.drop_succ_cons]
    exact path_at h.2 sg.2
theorem c_way_cost (T : Txt K mg C SH) : C8.Cal P w K mg base 5 "way_cost" (sp_way_cost K C) [] := by
  have c_ends_at : C8.Cal P w K mg base 1 "ends_at" (sp_ends_at K C) [] := Tk.c_ends_at T
  have c_is_step : C8.Cal P w K mg base 2 "is_step" (sp_is_step K C) [] := Tk.c_is_step T
  have c_step_cost : C8.Met P w K mg base 4 C "step_cost" (sp_step_cost K C) [] := Tk.c_step_cost T
  have c_steps_from : C8.Cal P w K mg base 1 "steps_from" (sp_steps_from K C) [] := Tk.c_steps_from T
  refine calD T.d_way_cost bn_way_cost sc_way_cost (fun vs H Q E h => by obtain ⟨_, _, _, _, _, _, rfl, _⟩ := h; rfl) (fun f cdv A outer s H vs Q E hr h => ?_)
  refine ⟨_, (pss_cons (ps_if (pt_not (pt_val (pe_callB (call_isiK' K rfl) (by rfl) T.isinstance (by decide +kernel) (pa_cons (pv 1) (pa_cons (pe_bltn (by rfl) T.tuple (v := .ty "tuple") (by decide +kernel) rfl) pa_nil))))) (pss_one (ps_ret pe_non)) pss_nil)
    (pss_cons (ps_set (i := 4) sc_way_cost.nd rfl (Or.inl rfl) pe_int)
    (pss_cons (ps_asg (pe_tup (pa_cons pe_int (pa_cons pe_int pa_nil))) (pg_tupK K (n := 2) rfl rfl (pgs_cons (pg_name (i := 5) sc_way_cost.nd rfl (Or.inl rfl)) (pgs_cons (pg_name (i := 6) sc_way_cost.nd rfl (Or.inl rfl)) pgs_nil))))
    (pss_cons (ps_for PassesOwn.never rfl (pi_tupK K rfl (pv 1)) (pg_name (i := 7) sc_way_cost.nd rfl (Or.inl rfl))
      (pss_cons (ps_if (PW.pt (pw_or (pt_not (pt_val (C8.pe_c c_is_step hr (by decide) (by rfl) (pa_cons (pv 7) pa_nil)))) (pw_or1 (pt_cmpR (op_notInDK K rfl (un65 hr)) (pv 7) (C8.pe_c c_steps_from hr (by decide) (by rfl) (pa_cons (pv 5) (pa_cons (pv 6) (pa_cons (pv 2) (pa_cons (pv 3) pa_nil))))) (by rfl))))) (pss_one (ps_ret pe_non)) pss_nil)
      (pss_cons (ps_aug (i := 4) sc_way_cost.nd rfl (Or.inl rfl) (C8.pe_mt c_step_cost hr (by decide) (pv 0) (pa_cons (pv 7) pa_nil)) ip_add)
      (pss_one (ps_asg (C8.pe_c c_ends_at hr (by decide) (by rfl) (pa_cons (pv 7) (pa_cons (pv 5) (pa_cons (pv 6) pa_nil)))) (pg_tupK K (n := 2) rfl rfl (pgs_cons (pg_name (i := 5) sc_way_cost.nd rfl (Or.inl rfl)) (pgs_cons (pg_name (i := 6) sc_way_cost.nd rfl (Or.inl rfl)) pgs_nil))))))))
    (pss_cons (ps_if (pt_cmpR (op_neDK K rfl hr.units) (pe_tup (pa_cons (pv 5) (pa_cons (pv 6) pa_nil))) (pe_tup (pa_cons (pv 2) (pa_cons (pv 3) pa_nil))) (nomark _)) (pss_one (ps_ret pe_non)) pss_nil)
    (pss_one (ps_ret (pv 4)))))))), ?_⟩
  obtain ⟨p, v, P, m, n, w, rfl, okp, hp, hm, hn, hd, hpath, q⟩ := h
  have hm30 : m ≤ 30 := by rw [hm]; exact okp.n1
  have hn30 : n ≤ 30 := by rw [hn]; exact okp.n2
  obtain ⟨dx, a, b, c1, c2, wv, pr, h1, h2, h3, h4, h5, h6, h7⟩ := id hp
  obtain ⟨aw, xs, rfl, hxs, hds⟩ := dp_tup hd
  have hxl : xs.length = w.length := by rw [dpa_len hds, List.length_map]
  refine ⟨_, rfl, _, _, _, _, true, rfl, .ty _, ty_tup hxs, k_tt, _, rfl, iteF ⟨le_line (by simp), fun t0 ht0 => ⟨t0, _, rfl, SqT.of upd_same, rfl, _, _, rfl, _, _, rfl, rfl, ?_⟩⟩⟩
  have s0 := same_new (o := .tup [.int 0, .int 0]) ht0
  refine ⟨_, rfl, aw, rfl, ⟨_, sqT_mono s0 hxs⟩, for_tup (K := K) (a := aw) (xs := xs) (fun t σ H' => ∃ y7 i j, σ = [some (.ref p), some (.ref aw), some (.int (m : Int)), some (.int (n : Int)), some (.int (wayC P (w.take t))), some (.int ((i : Nat) : Int)), some (.int ((j : Nat) : Int)), y7] ∧ Same H H' ∧ Seg m n 0 0 (w.take t) i j)
    ⟨none, 0, 0, rfl, s0, rfl, rfl⟩ (fun t σ H' _ ⟨_, _, _, _, s, _⟩ => sqT_mono s hxs) ?_ ?_⟩
  · rintro t x σ H' hx ⟨y7, i, j, rfl, s, sg⟩
    obtain ⟨d, hd1, hdx⟩ := dpa_of hds hx
    obtain ⟨s1, hs1, rfl⟩ := map_at hd1
    obtain ⟨hwl, him, hjn⟩ := seg_len sg (Nat.zero_le m) (Nat.zero_le n)
    have hp2 := path_at hpath sg
    have hdrop : w.drop t = s1 :: w.drop (t + 1) := by
      rw [List.drop_eq_getElem_cons (at_lt hs1)]
      congr 1
      exact Option.some.inj ((List.getElem?_eq_getElem (at_lt hs1)).symm.trans hs1)
    rw [hdrop] at hp2
    have hmem := hp2.1
    have hdx' := dp_up hdx s
    refine ⟨_, rfl, x, s1, rfl, hdx', stp_sml hmem, fun H2 s2 => ⟨_, rfl, iteF ⟨_, rfl, _, rfl, _, rfl, _, rfl, _, rfl, i, j, m, n, rfl, hm30, hn30, fun v3 H3 s3 d3 => ?_⟩⟩⟩
    have s23 := s2.trans s3
    refine ⟨stD s1, _, dp_up hdx' s23, dp_up d3 (ex_same _ _), shp_stD _, shp_stDs _, _, rfl, ?_⟩
    rw [any_stD, decide_eq_true hmem]
    refine iteF ?_
    have s03 := s.trans s23
    refine ⟨_, rfl, _, rfl, p, dx, _, rfl, s03 _ _ h1, no_stepc _ _ _ _, _, rfl, p, x, P, s1, rfl, okp, prAt_mono s03 hp, dp_up hdx s03, stp_ok hmem (by omega) (by omega), fun H4 s4 => ⟨_, _, rfl, rfl, ?_⟩⟩
    refine ⟨_, rfl, _, rfl, _, rfl, x, s1, i, j, rfl, dp_up hdx (s03.trans s4), (stp_len hmem).2, fun v5 H5 s5 d5 => ?_⟩
    obtain ⟨t7, u7, v7, rfl, h7, hu7, hv7⟩ := dp_pair d5
    have e7 := dp_int hu7
    have e8 := dp_int hv7
    subst e7 e8
    refine ⟨t7, _, rfl, sqT_mono (ex_same _ _) h7, rfl, _, _, rfl, _, _, rfl, rfl, some x, (endP s1 i j).1, (endP s1 i j).2, ?_, s03.trans (s4.trans s5), ?_⟩
    · rw [take_at hs1, wayC_snoc]; rfl
    · rw [take_at hs1]; exact seg_snoc sg hmem
  · rintro σ H' ⟨y7, i, j, rfl, s, sg⟩
    have hp2 := path_at hpath sg
    rw [hxl, List.drop_length] at hp2
    obtain ⟨rfl, rfl⟩ := hp2
    rw [hxl, List.take_length]
    refine ⟨_, rfl, _, rfl, le_line (by simp), fun z1 hz1 => ⟨_, rfl, _, rfl, le_line (by simp), fun z2 hz2 => ⟨prD2 (i, j), prD2 (i, j), dp_up dp_pr (same_new hz2), dp_pr, shp_pr _, shp_pr _, _, rfl, ?_⟩⟩⟩
    rw [eqv_pr, decide_eq_true rfl]
    exact iteF ⟨_, rfl, q _ (s.trans ((same_new hz1).trans (same_new hz2)))⟩
end
end Tk
namespace Tk
open PySem PySem.Spec PyProof.Rows L2
open SX (S)

section
variable {P : Program} {w : World} {K : PySem.W.Frag} {mg : Str → Option Value} {base : Heap} {C SH : Addr}

theorem sc_is_grid : FnScope ["thing", "m", "n", "row"] ["thing", "m", "n"] (defScope (topS 24)) := ⟨rfl, rfl, rfl, by decide +kernel, rfl, by decide +kernel, by decide +kernel⟩
theorem bn_is_grid : Bnd "is_grid" "is_grid" (topS 24) ["thing", "m", "n"] := fun _ _ _ _ _ _ us hl => match us, hl with | [_, _, _], _ => rfl

theorem c_is_grid (T : Txt K mg C SH) : C8.Cal P w K mg base 2 "is_grid" (sp_is_grid K C) [] := by
  have c_are_wholes : C8.Cal P w K mg base 1 "are_wholes" (sp_are_wholes K C) [] := Tk.c_are_wholes T
  refine calD T.d_is_grid bn_is_grid sc_is_grid (fun vs H Q E h => by obtain ⟨_, _, _, _, rfl, _⟩ := h; rfl) (fun f cdv A outer s H vs Q E hr h => ?_)
  refine ⟨_, (pss_cons (ps_if (PW.pt (pw_or (pt_not (pt_val (pe_callB (call_isiK' K rfl) (by rfl) T.isinstance (by decide +kernel) (pa_cons (pv 0) (pa_cons (pe_bltn (by rfl) T.tuple (v := .ty "tuple") (by decide +kernel) rfl) pa_nil))))) (pw_or1 (pt_cmpR op_ne (pe_callB (call_lenK K rfl) (by rfl) T.len (by decide +kernel) (pa_cons (pv 0) pa_nil)) (pe_op op_add (pv 1) pe_int) (nomark _))))) (pss_one (ps_ret pe_bl)) pss_nil)
    (pss_one (ps_ret (pe_callB (cr_allK K rfl rfl) (by rfl) T.all (by decide +kernel) (pa_cons (pe_lc (own := [("row", 3)]) (tt := tYes) rfl sc_is_grid.nd (pi_tupK K rfl (pv 0)) (blkOk_by (N := ["thing", "m", "n", "row"]) (sc := defScope (topS 24)) (by decide +kernel)) (fun _ _ _ _ _ => by exact (pg_name (i := 3) sc_is_grid.nd rfl (Or.inl rfl))) (fun _ _ _ _ _ => by exact pts_nil) (fun _ _ _ _ _ => by exact (pe_and (C8.pe_c c_are_wholes hr (by decide) (by rfl) (pa_cons (pv 3) pa_nil)) (pe_one (pe_cmpR op_eq (pe_callB (call_lenK K rfl) (by rfl) T.len (by decide +kernel) (pa_cons (pv 3) pa_nil)) (pe_op op_add (pv 2) pe_int) (nomark _)))))) pa_nil))))), ?_⟩
  obtain ⟨v, m, n, g, rfl, hm, hn, hd, G, q⟩ := h
  obtain ⟨a, xs, rfl, hs, hds⟩ := dp_tup hd
  have hxl : xs.length = m + 1 := by rw [dpa_len hds, List.length_map, G.rows]
  refine ⟨_, rfl, _, _, _, _, true, rfl, .ty _, ty_tup hs, k_tt, _, rfl, iteF ⟨_, rfl, _, _, rfl, .inr hs, _, rfl, _, _, rfl, rfl, rfl, _, rfl, ?_⟩⟩
  rw [hxl, decide_eq_true (show V.int ((m + 1 : Nat) : Int) = V.int ((m : Int) + 1) from by rw [Int.natCast_add]; rfl)]
  refine iteF ⟨_, rfl, a, rfl, ⟨_, hs⟩, fun D hD => lcT_map (K := K) hs ((g.map fun _ => true).map .bool) (by rw [List.length_map, List.length_map, hxl, G.rows]) hD (lt_line (by omega)) ?_ ?_⟩
  · intro k x e H2 hx he s2 Q' q'
    obtain ⟨d, hd1, hdx⟩ := dpa_of hds hx
    obtain ⟨row, hrow, rfl⟩ := map_at hd1
    obtain ⟨b, hb, rfl⟩ := map_at he
    obtain ⟨i', hi', rfl⟩ := map_at hb
    have hl := G.cols row (List.mem_of_getElem? hrow)
    obtain ⟨ar, rfl, hsr⟩ := dp_ints hdx
    refine ⟨rfl, _, rfl, _, row, rfl, dp_up hdx s2, by omega, fun H3 s3 => ⟨_, rfl, iteT ⟨_, rfl, ar, _, rfl, .inr (sqT_mono (s2.trans s3) hsr), _, rfl, _, _, rfl, rfl, rfl, ?_⟩⟩⟩
    rw [List.length_map, hl, decide_eq_true (show V.int ((n + 1 : Nat) : Int) = V.int ((n : Int) + 1) from by rw [Int.natCast_add]; rfl)]
    exact q' _ _ s3 (.bl _)
  · intro H2 s2 d2
    refine ⟨D, _, rfl, sqL_ofB d2, ?_⟩
    rw [show ((g.map fun _ => true).all id) = true by simp]
    exact q H2 s2
end
end Tk
namespace Tk
open PySem PySem.Spec PyProof.Rows L2
open SX (S)

section
variable {P : Program} {w : World} {K : PySem.W.Frag} {mg : Str → Option Value} {base : Heap} {C SH : Addr}

theorem sc_holds : FnScope ["pricing", "paper", "m", "n", "i", "j", "step", "to", "at"] ["pricing", "paper", "m", "n"] (defScope (topS 25)) := ⟨rfl, rfl, rfl, by decide +kernel, rfl, by decide +kernel, by decide +kernel⟩
theorem bn_holds : Bnd "holds" "holds" (topS 25) ["pricing", "paper", "m", "n"] := fun _ _ _ _ _ _ us hl => match us, hl with | [_, _, _, _], _ => rfl

theorem c_holds (T : Txt K mg C SH) : C8.Cal P w K mg base 5 "holds" (sp_holds K C) [] := by
  have c_ends_at : C8.Cal P w K mg base 1 "ends_at" (sp_ends_at K C) [] := Tk.c_ends_at T
  have c_step_cost : C8.Met P w K mg base 4 C "step_cost" (sp_step_cost K C) [] := Tk.c_step_cost T
  have c_steps_from : C8.Cal P w K mg base 1 "steps_from" (sp_steps_from K C) [] := Tk.c_steps_from T
  refine calD T.d_holds bn_holds sc_holds (fun vs H Q E h => by obtain ⟨_, _, _, _, _, _, rfl, _⟩ := h; rfl) (fun f cdv A outer s H vs Q E hr h => ?_)
  refine ⟨_, (pss_cons (ps_for PassesOwn.never rfl (pi_range1 (by rfl) T.range (pa_cons (pe_op op_add (pv 2) pe_int) pa_nil)) (pg_name (i := 4) sc_holds.nd rfl (Or.inl rfl))
      (pss_one (ps_for PassesOwn.never rfl (pi_range1 (by rfl) T.range (pa_cons (pe_op op_add (pv 3) pe_int) pa_nil)) (pg_name (i := 5) sc_holds.nd rfl (Or.inl rfl))
        (pss_one (ps_for PassesOwn.never rfl (pi_listK K rfl (C8.pe_c c_steps_from hr (by decide) (by rfl) (pa_cons (pv 4) (pa_cons (pv 5) (pa_cons (pv 2) (pa_cons (pv 3) pa_nil)))))) (pg_name (i := 6) sc_holds.nd rfl (Or.inl rfl))
          (pss_cons (ps_asg (C8.pe_c c_ends_at hr (by decide) (by rfl) (pa_cons (pv 6) (pa_cons (pv 4) (pa_cons (pv 5) pa_nil)))) (pg_tupK K (n := 2) rfl rfl (pgs_cons (pg_name (i := 7) sc_holds.nd rfl (Or.inl rfl)) (pgs_cons (pg_name (i := 8) sc_holds.nd rfl (Or.inl rfl)) pgs_nil))))
          (pss_one (ps_if (pt_cmpR op_lt (C8.pe_mt c_step_cost hr (by decide) (pv 0) (pa_cons (pv 6) pa_nil)) (pe_op op_sub (pe_ix (ix_tupK K rfl) (pe_ix (ix_tupK K rfl) (pv 1) (pv 7) (fun _ _ => rfl)) (pv 8) (fun _ _ => rfl)) (pe_ix (ix_tupK K rfl) (pe_ix (ix_tupK K rfl) (pv 1) (pv 4) (fun _ _ => rfl)) (pv 5) (fun _ _ => rfl))) (nomark _)) (pss_one (ps_ret pe_bl)) pss_nil))))))))
    (pss_one (ps_ret pe_bl))), ?_⟩
  obtain ⟨p, v, P, m, n, g, rfl, okp, hp, hm, hn, hd, G, U, q⟩ := h
  have hm30 : m ≤ 30 := by rw [hm]; exact okp.n1
  have hn30 : n ≤ 30 := by rw [hn]; exact okp.n2
  obtain ⟨dx, a, b, c1, c2, wv, pr, h1, h2, h3, h4, h5, h6, h7⟩ := id hp
  refine ⟨_, rfl, _, _, rfl, rfl, _, rfl, by omega, by omega, for_range (fun t σ H' => ∃ y4 y5 y6 y7 y8, σ = [some (.ref p), some v, some (.int (m : Int)), some (.int (n : Int)), y4, y5, y6, y7, y8] ∧ Same H H') ⟨_, _, _, _, _, rfl, Same.refl _⟩ ?_ ?_⟩
  · rintro i σ H2 hi ⟨y4, y5, y6, y7, y8, rfl, s2⟩
    have him : i ≤ m := by omega
    rw [Int.zero_add]
    refine ⟨_, rfl, _, _, rfl, rfl, _, rfl, by omega, by omega, for_range (fun t σ H' => ∃ y5 y6 y7 y8, σ = [some (.ref p), some v, some (.int (m : Int)), some (.int (n : Int)), some (.int (i : Int)), y5, y6, y7, y8] ∧ Same H H') ⟨_, _, _, _, rfl, s2⟩ ?_ ?_⟩
    · clear s2
      rintro j σ H3 hj ⟨y5, y6, y7, y8, rfl, s3⟩
      have hjn : j ≤ n := by omega
      rw [Int.zero_add]
      refine ⟨_, rfl, _, rfl, _, rfl, _, rfl, i, j, m, n, rfl, hm30, hn30, fun v4 H4 s4 d4 => ?_⟩
      obtain ⟨av, xs, rfl, hxs, hds⟩ := dp_lst d4
      have hxs' := sqL_mono (ex_same _ _) hxs
      refine ⟨av, rfl, ⟨_, hxs'⟩, for_list (K := K) (a := av) (xs := xs) (fun t σ H' => ∃ y6 y7 y8, σ = [some (.ref p), some v, some (.int (m : Int)), some (.int (n : Int)), some (.int (i : Int)), some (.int (j : Int)), y6, y7, y8] ∧ Same H4 H') ⟨_, _, _, rfl, Same.refl _⟩ (fun t σ H' _ ⟨_, _, _, _, s⟩ => sqL_mono s hxs') ?_ ?_⟩
      · rintro t x σ H5 hx ⟨y6, y7, y8, rfl, s5⟩
        obtain ⟨d, hd1, hdx⟩ := dpa_of hds hx
        obtain ⟨s1, hs1, rfl⟩ := map_at hd1
        have hmem := List.mem_of_getElem? hs1
        have hdx5 := dp_up hdx ((ex_same _ _).trans s5)
        obtain ⟨e1, e2, e3, e4, e5⟩ := endP_le hmem him hjn
        refine ⟨_, rfl, _, rfl, _, rfl, x, s1, i, j, rfl, hdx5, (stp_len hmem).2, fun v6 H6 s6 d6 => ?_⟩
        obtain ⟨t7, u7, v7, rfl, ht7, hu7, hv7⟩ := dp_pair d6
        have e7 := dp_int hu7
        have e8 := dp_int hv7
        subst e7 e8
        refine ⟨t7, _, rfl, sqT_mono (ex_same _ _) ht7, rfl, _, _, rfl, _, _, rfl, rfl, ?_⟩
        have s06 := s3.trans (s4.trans (s5.trans s6))
        refine ⟨_, rfl, p, dx, _, rfl, s06 _ _ h1, no_stepc _ _ _ _, _, rfl, p, x, P, s1, rfl, okp, prAt_mono s06 hp, dp_up hdx5 s6, stp_ok hmem (by omega) (by omega), fun H7 s7 => ?_⟩
        have s07 := s06.trans s7
        have hd7 := dp_up hd s07
        obtain ⟨r, rows, c, cells, rfl, hrs, hra, hcs, hca⟩ := pgrd_at hd7 G e2 e4
        obtain ⟨r', rows', c', cells', e, hrs', hra', hcs', hca'⟩ := pgrd_at hd7 G him hjn
        cases e
        refine ⟨_, rfl, _, rfl, _, _, _, _, rfl, rfl, hrs, atI_nat hra, _, rfl, _, _, _, _, rfl, rfl, hcs, atI_nat hca, _, rfl, _, rfl, _, _, _, _, rfl, rfl, hrs', atI_nat hra', _, rfl, _, _, _, _, rfl, rfl, hcs', atI_nat hca', _, _, rfl, rfl, _, _, rfl, rfl, _, rfl, ?_⟩
        rw [decide_eq_false (by have := U i j s1 him hjn hmem; omega)]
        exact iteF ⟨_, _, _, rfl, s5.trans (s6.trans s7)⟩
      · rintro σ H5 ⟨y6, y7, y8, rfl, s5⟩
        exact ⟨_, _, _, _, rfl, s3.trans (s4.trans s5)⟩
    · rintro σ H3 ⟨y5, y6, y7, y8, rfl, s3⟩
      exact ⟨_, _, _, _, _, rfl, s3⟩
  · rintro σ H2 ⟨y4, y5, y6, y7, y8, rfl, s2⟩
    exact q H2 s2
end
end Tk
namespace Tk
open PySem PySem.Spec PyProof.Rows L2
open SX (S)

section
variable {P : Program} {w : World} {K : PySem.W.Frag} {mg : Str → Option Value} {base : Heap} {C SH : Addr}

theorem sc_shows_found : FnScope ["ones", "others", "words", "prices", "told", "cost", "way", "paper", "m", "n", "pricing"] ["ones", "others", "words", "prices", "told"] (defScope (topS 26)) := ⟨rfl, rfl, rfl, by decide +kernel, rfl, by decide +kernel, by decide +kernel⟩
theorem bn_shows_found : Bnd "shows_found" "shows_found" (topS 26) ["ones", "others", "words", "prices", "told"] := fun _ _ _ _ _ _ us hl => match us, hl with | [_, _, _, _, _], _ => rfl

theorem c_shows_found (T : Txt K mg C SH) : C8.Cal P w K mg base 6 "shows_found" (sp_shows_found K C) [] := by
  have c_Pricing : C8.Mak P w K mg base 3 "Pricing" C (sp_init K C) [] := Tk.c_init T
  have c_are_wholes : C8.Cal P w K mg base 1 "are_wholes" (sp_are_wholes K C) [] := Tk.c_are_wholes T
  have c_holds : C8.Cal P w K mg base 5 "holds" (sp_holds K C) [] := Tk.c_holds T
  have c_is_grid : C8.Cal P w K mg base 2 "is_grid" (sp_is_grid K C) [] := Tk.c_is_grid T
  have c_way_cost : C8.Cal P w K mg base 5 "way_cost" (sp_way_cost K C) [] := Tk.c_way_cost T
  refine calD T.d_shows_found bn_shows_found sc_shows_found (fun vs H Q E h => by obtain ⟨_, _, _, _, _, _, _, _, rfl, _⟩ := h; rfl) (fun f cdv A outer s H vs Q E hr h => ?_)
  refine ⟨_, (pss_cons (ps_if (PW.pt (pw_or (pt_not (pt_val (pe_callB (call_isiK' K rfl) (by rfl) T.isinstance (by decide +kernel) (pa_cons (pv 4) (pa_cons (pe_bltn (by rfl) T.tuple (v := .ty "tuple") (by decide +kernel) rfl) pa_nil))))) (pw_or (pt_cmpR op_ne (pe_callB (call_lenK K rfl) (by rfl) T.len (by decide +kernel) (pa_cons (pv 4) pa_nil)) pe_int (nomark _)) (pw_or1 (pt_not (pt_val (C8.pe_c c_are_wholes hr (by decide) (by rfl) (pa_cons (pe_slice (sl_tupAK K rfl) (pv 4) po_none (po_some pe_int)) pa_nil)))))))) (pss_one (ps_ret pe_bl)) pss_nil)
    (pss_cons (ps_asg (pv 4) (pg_tupK K (n := 3) rfl rfl (pgs_cons (pg_name (i := 5) sc_shows_found.nd rfl (Or.inl rfl)) (pgs_cons (pg_name (i := 6) sc_shows_found.nd rfl (Or.inl rfl)) (pgs_cons (pg_name (i := 7) sc_shows_found.nd rfl (Or.inl rfl)) pgs_nil)))))
    (pss_cons (ps_par (i := 8) (j := 9) rfl sc_shows_found.nd rfl rfl (by decide) rfl rfl (pa_cons (pe_callB (call_lenK K rfl) (by rfl) T.len (by decide +kernel) (pa_cons (pv 0) pa_nil)) (pa_cons (pe_callB (call_lenK K rfl) (by rfl) T.len (by decide +kernel) (pa_cons (pv 1) pa_nil)) pa_nil)) (by rfl))
    (pss_cons (ps_set (i := 10) sc_shows_found.nd rfl (Or.inl rfl) (C8.pe_mk c_Pricing hr (by decide) (by rfl) (pa_cons (pv 0) (pa_cons (pv 1) (pa_cons (pv 2) (pa_cons (pv 3) pa_nil))))))
    (pss_cons (ps_if (PW.pt (pw_or (pt_cmpR op_ne (C8.pe_c c_way_cost hr (by decide) (by rfl) (pa_cons (pv 10) (pa_cons (pv 6) (pa_cons (pv 8) (pa_cons (pv 9) pa_nil))))) (pv 5) (nomark _)) (pw_or1 (pt_not (pt_val (C8.pe_c c_is_grid hr (by decide) (by rfl) (pa_cons (pv 7) (pa_cons (pv 8) (pa_cons (pv 9) pa_nil))))))))) (pss_one (ps_ret pe_bl)) pss_nil)
    (pss_one (ps_ret (pe_and (pe_cmpR op_eq (pe_ix (ix_tupK K rfl) (pe_ix (ix_tupK K rfl) (pv 7) pe_int (fun _ _ => rfl)) pe_int (fun _ _ => rfl)) pe_int (nomark _)) (pe_and (pe_cmpR op_eq (pe_ix (ix_tupK K rfl) (pe_ix (ix_tupK K rfl) (pv 7) (pv 8) (fun _ _ => rfl)) (pv 9) (fun _ _ => rfl)) (pv 5) (nomark _)) (pe_one (C8.pe_c c_holds hr (by decide) (by rfl) (pa_cons (pv 10) (pa_cons (pv 7) (pa_cons (pv 8) (pa_cons (pv 9) pa_nil))))))))))))))), ?_⟩
  obtain ⟨a, b, w, pr, t, P, way, g, rfl, okp, ha, hb, hw, hpr, ht, hpath, G, U, h00, q⟩ := h
  obtain ⟨aa, xa, rfl, hsa, hda⟩ := dp_tup ha
  obtain ⟨ab, xb, rfl, hsb, hdb⟩ := dp_tup hb
  have la : xa.length = P.ones.length := by rw [dpa_len hda, List.length_map]
  have lb : xb.length = P.others.length := by rw [dpa_len hdb, List.length_map]
  obtain ⟨at', xt, rfl, hst, hdt⟩ := dp_tup ht
  cases hdt with
  | cons hc hdt =>
  cases hdt with
  | cons hway hdt =>
  cases hdt with
  | cons hpap hdt =>
  cases hdt
  have ec := dp_int hc
  subst ec
  rename_i vw vp
  refine ⟨_, rfl, _, _, _, _, true, rfl, .ty _, ty_tup hst, k_tt, _, rfl, iteF ⟨_, rfl, at', _, rfl, .inr hst, rfl, _, rfl, iteF ⟨_, rfl, _, rfl, at', _, rfl, hst, fun z => absurd z.2 (show ¬ (1 = 3) from by decide), fun _ p hp => ?_⟩⟩⟩
  have s1 := same_new (o := .tup (cutV [V.int (wayC P way), vw, vp] none (some 1))) hp
  refine ⟨.ref p, [wayC P way], rfl, .tup (SqT.of upd_same) (.cons (.int _) .nil), by simp, fun H2 s2 => ⟨_, rfl, iteF ?_⟩⟩
  have s12 := s1.trans s2
  refine ⟨_, rfl, at', _, rfl, sqT_mono s12 hst, rfl, _, _, rfl, _, _, rfl, _, _, rfl, rfl, ?_⟩
  refine ⟨_, rfl, aa, _, rfl, .inr (sqT_mono s12 hsa), _, rfl, ab, _, rfl, .inr (sqT_mono s12 hsb), _, _, rfl, ?_⟩
  rw [la, lb]
  refine ⟨_, rfl, _, rfl, _, rfl, _, rfl, fun x dx hx hdx hne => ?_⟩
  have si := s12.trans (made_in (C := C) hx hdx hne)
  refine ⟨x, dx, _, _, _, _, P, rfl, upd_same, okp, dp_up ha si, dp_up hb si, dp_up hw si, dp_up hpr si, fun H3 k3 hP => ⟨rfl, ?_⟩⟩
  have s3 := s12.trans (made_same hx hdx hne k3)
  clear k3 si
  refine ⟨_, rfl, _, rfl, _, rfl, _, rfl, x, vw, P, _, _, way, rfl, okp, hP, rfl, rfl, dp_up hway s3, hpath, fun H4 s4 => ⟨_, rfl, rfl, _, rfl, ?_⟩⟩
  rw [decide_eq_true rfl]
  have s34 := s3.trans s4
  have n1 := okp.n1
  have n2 := okp.n2
  refine iteF ⟨_, rfl, _, rfl, _, rfl, vp, _, _, g, rfl, n1, n2, dp_up hpap s34, G, fun H5 s5 => ⟨_, rfl, iteF ?_⟩⟩
  have s35 := s34.trans s5
  obtain ⟨r, rows, c, cells, rfl, hrs, hra, hcs, hca⟩ := pgrd_at (dp_up hpap s35) G (Nat.zero_le _) (Nat.zero_le _)
  obtain ⟨r', rows', c', cells', e, hrs', hra', hcs', hca'⟩ := pgrd_at (dp_up hpap s35) G (Nat.le_refl _) (Nat.le_refl _)
  cases e
  refine ⟨_, rfl, _, _, _, _, rfl, rfl, hrs, atI_nat (j := 0) hra, _, _, _, _, rfl, rfl, hcs, atI_nat (j := 0) hca, rfl, _, rfl, ?_⟩
  rw [h00, decide_eq_true rfl]
  refine iteT ⟨_, rfl, _, rfl, _, _, _, _, rfl, rfl, hrs', atI_nat hra', _, rfl, _, _, _, _, rfl, rfl, hcs', atI_nat hca', _, rfl, rfl, _, rfl, ?_⟩
  by_cases he : gv g P.ones.length P.others.length = wayC P way
  · rw [decide_eq_true he] at q
    rw [decide_eq_true (by rw [he])]
    exact iteT ⟨_, rfl, _, rfl, _, rfl, _, rfl, x, _, P, _, _, g, rfl, okp, prAt_mono (s4.trans s5) hP, rfl, rfl, dp_up hpap s35, G, U, fun H6 s6 => q H6 (s35.trans s6)⟩
  · rw [decide_eq_false he] at q
    rw [decide_eq_false (fun z => he (by injection z))]
    exact iteF (q H5 s35)
end
end Tk
namespace Tk
open PySem PySem.Spec PyProof.Rows L2
open SX (S)
/-! ### what is drawn -/
theorem sq_lst {K : PySem.W.Frag} {H : Hp} {D : Addr} {ds : List PyData} (d : Dp K H (.ref D) (.list ds)) : ∃ xs, SqL K H D xs ∧ DpAll K H xs ds := by
  obtain ⟨a, xs, e, h1, h2⟩ := dp_lst d
  cases e
  exact ⟨xs, h1, h2⟩
def Pot (H : Hp) (p : Addr) : Prop := ∃ ns : List Int, ns ≠ [] ∧ H p = some (.lst (ns.map V.int))
theorem pot_mono {H H' : Hp} {p : Addr} (s : Same H H') (h : Pot H p) : Pot H' p := by
  obtain ⟨ns, h1, h2⟩ := h
  exact ⟨ns, h1, s _ _ h2⟩
theorem pot_upd {H : Hp} {p D : Addr} {o : HO} (h : Pot H p) (hD : D ≠ p) : Pot (upd H D o) p := by
  obtain ⟨ns, h1, h2⟩ := h
  exact ⟨ns, h1, by rw [upd_ne (fun e => hD e.symm)]; exact h2⟩
theorem pot_some {H : Hp} {p : Addr} (h : Pot H p) : dm H p = true := by
  obtain ⟨ns, h1, h2⟩ := h
  exact dm_some h2
theorem pot_ne {H : Hp} {p D : Addr} (h : Pot H p) (hD : H D = none) : D ≠ p := fun e => by
  obtain ⟨ns, h1, h2⟩ := h
  rw [e, h2] at hD
  cases hD
def okW (w : Tx) : Prop := w.length ≤ 17 ∧ ∀ c ∈ w, c < 128
def strsW (ws : List Tx) : List V := ws.map fun l => V.str (S l)
structure Wds (H : Hp) (o : Addr) (ws : List Tx) : Prop where
  at' : H o = some (.lst (strsW ws))
  nine : ws.length = 9
  ok : ∀ w ∈ ws, okW w
theorem wds_ne {H : Hp} {p o : Addr} {ws : List Tx} (h : Pot H p) (w : Wds H o ws) : o ≠ p := fun e => by
  obtain ⟨ns, h1, h2⟩ := h
  have h3 := w.at'
  rw [e, h2] at h3
  cases ns with
  | nil => exact h1 rfl
  | cons n ns =>
    cases ws with
    | nil => cases w.nine
    | cons x xs => cases h3
theorem wds_kp {H H' : Hp} {p o : Addr} {ws : List Tx} (h : Pot H p) (w : Wds H o ws) (k : Kp (one p) H H') : Wds H' o ws := ⟨k.1 _ _ (one_ne (wds_ne h w)) w.at', w.nine, w.ok⟩
theorem okW_T {w : Tx} (h : okW w) : okT w := ⟨Nat.le_trans h.1 (by decide), h.2⟩
def sp__law_next (K : PySem.W.Frag) (C : Addr) : Sp := fun vs H Q _ => ∃ (p : Addr) (k : Nat), vs = [.ref p, .int (k : Int)] ∧ Pot H p ∧ 0 < k ∧ k < 1073741824 ∧ ∀ (d : Nat) H', d < k → Kp (one p) H H' → Pot H' p → Q (.int (d : Int)) H'
def sp__law_state (K : PySem.W.Frag) (C : Addr) : Sp := fun vs H Q _ => ∃ (a : Addr) (ns : List Int), vs = [.ref a] ∧ SqL K H a (ns.map V.int) ∧ ∀ p H', Same H H' → H p = none → Pot H' p → Q (.ref p) H'
def sp__law_list (K : PySem.W.Frag) (C : Addr) : Sp := fun vs H Q _ => ∃ (p : Addr), vs = [.ref p] ∧ Pot H p ∧ ∀ ws o H', Kp (one p) H H' → Pot H' p → H o = none → Wds H' o ws → Q (.ref o) H'
def sp__law_text (K : PySem.W.Frag) (C : Addr) : Sp := fun vs H Q _ => ∃ (p c : Addr) (ws : List Tx), vs = [.ref p, .ref c] ∧ Pot H p ∧ Wds H c ws ∧ ∀ l H', Kp (one p) H H' → Pot H' p → okT l → Q (.str (S l)) H'
def sp__law_texts (K : PySem.W.Frag) (C : Addr) : Sp := fun vs H Q _ => ∃ (p c : Addr) (ws : List Tx) (k : Nat), vs = [.ref p, .ref c, .int (k : Int)] ∧ Pot H p ∧ Wds H c ws ∧ k ≤ 30 ∧
  ∀ ts v H', Kp (one p) H H' → Pot H' p → ts.length = k → (∀ t ∈ ts, okT t) → Dp K (nw H H') v (txsD ts) → Q v H'
def prD (q : Tx × Tx) : PyData := .tuple [sD q.1, sD q.2]
def sp__law_known (K : PySem.W.Frag) (C : Addr) : Sp := fun vs H Q _ => ∃ (p c d : Addr) (ws us : List Tx), vs = [.ref p, .ref c, .ref d] ∧ Pot H p ∧ Wds H c ws ∧ Wds H d us ∧
  ∀ (kn : List (Tx × Tx)) v H', Kp (one p) H H' → Pot H' p → kn.length ≤ 30 → (∀ q ∈ kn, okT q.1 ∧ okT q.2) → Dp K (nw H H') v (.tuple (kn.map prD)) → Q v H'
def sp__law_prices (K : PySem.W.Frag) (C : Addr) : Sp := fun vs H Q _ => ∃ (p : Addr), vs = [.ref p] ∧ Pot H p ∧
  ∀ (ps : List Int) v H', Kp (one p) H H' → Pot H' p → ps.length = 5 → (∀ x ∈ ps, sml x) → Dp K (nw H H') v (.tuple (ps.map .int)) → Q v H'
def drawnD (P : Prc) : PyData := .tuple [txsD P.ones, txsD P.others, knD P, prsD P]
def sp__law_drawn (K : PySem.W.Frag) (C : Addr) : Sp := fun vs H Q _ => ∃ (p : Addr) (a b : Nat), vs = [.ref p, .int (a : Int), .int (b : Int)] ∧ Pot H p ∧ a ≤ 30 ∧ b ≤ 30 ∧
  ∀ P v H', Kp (one p) H H' → Pot H' p → okP P → Dp K (nw H H') v (drawnD P) → Q v H'
end Tk
namespace Tk
open PySem PySem.Spec PyProof.Rows L2
open SX (S)

section
variable {P : Program} {w : World} {K : PySem.W.Frag} {mg : Str → Option Value} {base : Heap} {C SH : Addr}

theorem sc__law_next : FnScope ["_law_pot", "_law_many", "_law_digit"] ["_law_pot", "_law_many"] (defScope (topS 28)) := ⟨rfl, rfl, rfl, by decide +kernel, rfl, by decide +kernel, by decide +kernel⟩
theorem bn__law_next : Bnd "_law_next" "_law_next" (topS 28) ["_law_pot", "_law_many"] := fun _ _ _ _ _ _ us hl => match us, hl with | [_, _], _ => rfl

theorem c__law_next (T : Txt K mg C SH) : C8.Cal P w K mg base 1 "_law_next" (sp__law_next K C) [] := by
  refine calD T.d__law_next bn__law_next sc__law_next (fun vs H Q E h => by obtain ⟨_, _, rfl, _⟩ := h; rfl) (fun f cdv A outer s H vs Q E hr h => ?_)
  refine ⟨_, (pss_cons (ps_if (pt_cmpR op_gt (pe_callB (call_lenK K rfl) (by rfl) T.len (by decide +kernel) (pa_cons (pv 0) pa_nil)) pe_int (nomark _)) (pss_cons (ps_set (i := 2) sc__law_next.nd rfl (Or.inl rfl) (pe_op op_mod (pe_ix (ix_listK K rfl) (pv 0) pe_int (fun _ _ => rfl)) (pv 1)))
      (pss_cons (ps_asg (pe_op op_fdiv (pe_ix (ix_listK K rfl) (pv 0) pe_int (fun _ _ => rfl)) (pv 1)) (pg_sub (pv 0) pe_int set_list))
      (pss_cons (ps_if (pt_cmpR op_eq (pe_ix (ix_listK K rfl) (pv 0) pe_int (fun _ _ => rfl)) pe_int (nomark _)) (pss_one (ps_expr (pe_bm PySem.F.plainAttrs_list PySem.F.slot_list_pop PySem.F.type_list_pop mt_popAt (pv 0) (pa_cons pe_int pa_nil)))) pss_nil)
      (pss_one (ps_ret (pv 2)))))) pss_nil)
    (pss_cons (ps_asg (pe_op op_mod (pe_op op_add (pe_op op_mul (pe_ix (ix_listK K rfl) (pv 0) pe_int (fun _ _ => rfl)) pe_int) pe_int) pe_int) (pg_sub (pv 0) pe_int set_list))
    (pss_one (ps_ret (pe_op op_mod (pe_op op_fdiv (pe_ix (ix_listK K rfl) (pv 0) pe_int (fun _ _ => rfl)) pe_int) (pv 1)))))), ?_⟩
  obtain ⟨p, k, rfl, ⟨ns, hne, hp⟩, hk0, hk1, q⟩ := h
  cases ns with
  | nil => exact absurd rfl hne
  | cons x r =>
  have hq : ∀ (y : Int) H', Kp (one p) H H' → Pot H' p → Q (.int (y % (k : Int))) H' := fun y H' kp po => by
    have h0 : 0 ≤ y % (k : Int) := Int.emod_nonneg _ (by omega)
    have h1 : y % (k : Int) < k := Int.emod_lt_of_pos _ (by omega)
    have := q (y % (k : Int)).toNat H' (by omega) kp po
    rwa [Int.toNat_of_nonneg h0] at this
  refine ⟨_, rfl, p, _, rfl, .inl (SqL.of hp), _, _, rfl, rfl, _, rfl, ?_⟩
  by_cases hl : 1 < (((x :: r).map V.int).length : Int)
  · have hr0 : r ≠ [] := fun e => by rw [e] at hl; simp at hl
    rw [decide_eq_true hl]
    refine iteT ⟨_, rfl, _, _, _, _, rfl, rfl, SqL.of hp, atI_nat (j := 0) rfl, _, rfl, _, _, rfl, rfl, by omega, ?_⟩
    refine ⟨_, rfl, _, _, _, _, rfl, rfl, SqL.of hp, atI_nat (j := 0) rfl, _, rfl, _, _, rfl, rfl, ⟨by omega, by omega⟩, ?_⟩
    refine ⟨_, rfl, p, _, _, 0, rfl, rfl, hp, ixN_at (j := 0) (by simp), ?_⟩
    have k1 : Kp (one p) H (upd H p (.lst (((x :: r).map V.int).set 0 (.int (x / (k : Int)))))) := Kp.write (one_self p) hp
    have p1 : (upd H p (.lst (((x :: r).map V.int).set 0 (.int (x / (k : Int)))))) p = some (.lst (((x / (k : Int)) :: r).map V.int)) := upd_same
    generalize upd H p (.lst (((x :: r).map V.int).set 0 (.int (x / (k : Int))))) = H1 at k1 p1
    refine ⟨_, rfl, _, _, _, _, rfl, rfl, SqL.of p1, atI_nat (j := 0) rfl, rfl, _, rfl, ?_⟩
    by_cases hz : V.int (x / (k : Int)) = V.int 0
    · rw [decide_eq_true hz]
      refine iteT ⟨_, rfl, .inl ⟨rfl, _, SqL.of p1⟩, p, _, 0, 0, _, rfl, rfl, p1, by decide, by decide, (ixN_seq (ixN_at (j := 0) (by simp))).1, rfl, ?_⟩
      exact ⟨_, rfl, hq x _ (k1.trans (Kp.write (one_self p) p1)) ⟨r, hr0, upd_same⟩⟩
    · rw [decide_eq_false hz]
      exact iteF ⟨_, rfl, hq x _ k1 ⟨_, by simp, p1⟩⟩
  · rw [decide_eq_false hl]
    refine iteF ⟨_, rfl, _, _, _, _, rfl, rfl, SqL.of hp, atI_nat (j := 0) rfl, _, _, rfl, rfl, .inr ⟨by decide, by decide⟩, _, _, rfl, rfl, _, _, rfl, rfl, (show (0 : Int) < 2305843009213693951 by decide), ?_⟩
    refine ⟨_, rfl, p, _, _, 0, rfl, rfl, hp, ixN_at (j := 0) (by simp), ?_⟩
    have k1 : Kp (one p) H (upd H p (.lst (((x :: r).map V.int).set 0 (.int ((x * 3935559000370003845 + 2691343689449507681) % 2305843009213693951))))) := Kp.write (one_self p) hp
    have p1 : (upd H p (.lst (((x :: r).map V.int).set 0 (.int ((x * 3935559000370003845 + 2691343689449507681) % 2305843009213693951))))) p = some (.lst ((((x * 3935559000370003845 + 2691343689449507681) % 2305843009213693951) :: r).map V.int)) := upd_same
    refine ⟨_, rfl, _, _, _, _, rfl, rfl, SqL.of p1, atI_nat (j := 0) rfl, _, _, rfl, rfl, ⟨by decide, by decide⟩, _, rfl, _, _, rfl, rfl, by omega, ?_⟩
    exact hq _ _ k1 ⟨_, by simp, p1⟩
end
end Tk
namespace Tk
open PySem PySem.Spec PyProof.Rows L2
open SX (S)

section
variable {P : Program} {w : World} {K : PySem.W.Frag} {mg : Str → Option Value} {base : Heap} {C SH : Addr}

theorem sc__law_state : FnScope ["_law_script", "_law_seed", "_law_cell"] ["_law_script"] (defScope (topS 29)) := ⟨rfl, rfl, rfl, by decide +kernel, rfl, by decide +kernel, by decide +kernel⟩
theorem bn__law_state : Bnd "_law_state" "_law_state" (topS 29) ["_law_script"] := fun _ _ _ _ _ _ us hl => match us, hl with | [_], _ => rfl
theorem cut_map (ns : List Int) (lo hi : Option Int) : ∃ ms : List Int, cutV (ns.map V.int) lo hi = ms.map V.int ∧ ms.length ≤ ns.length := by
  unfold cutV
  rw [← List.map_drop, ← List.map_take]
  exact ⟨_, rfl, by rw [List.length_take, List.length_drop]; omega⟩
theorem cut63 (ns : List Int) : ∃ ms : List Int, cutV (ns.map V.int) none (some 63) = ms.map V.int ∧ ms.length ≤ 63 := by
  unfold cutV
  rw [← List.map_drop, ← List.map_take]
  refine ⟨_, rfl, ?_⟩
  rw [List.length_take, List.length_drop, List.length_map]
  have e : HT.sIx ns.length ns.length (some 63) = min 63 ns.length := rfl
  rw [e]
  omega
theorem c__law_state (T : Txt K mg C SH) : C8.Cal P w K mg base 1 "_law_state" (sp__law_state K C) [] := by
  refine calD T.d__law_state bn__law_state sc__law_state (fun vs H Q E h => by obtain ⟨_, _, rfl, _⟩ := h; rfl) (fun f cdv A outer s H vs Q E hr h => ?_)
  refine ⟨_, (pss_cons (ps_set (i := 1) sc__law_state.nd rfl (Or.inl rfl) pe_int)
    (pss_cons (ps_for PassesOwn.never rfl (pi_listK K rfl (pe_slice (sl_listK K rfl) (pv 0) po_none (po_some pe_int))) (pg_name (i := 2) sc__law_state.nd rfl (Or.inl rfl))
      (pss_one (ps_set (i := 1) sc__law_state.nd rfl (Or.inl rfl) (pe_op op_mod (pe_op op_add (pe_op op_add (pe_op op_mul (pv 1) pe_int) (pe_op op_mod (pv 2) (pe_op op_pow pe_int pe_int))) pe_int) pe_int))))
    (pss_one (ps_ret (pe_op op_cat (pe_lc (own := [("_law_cell", 2)]) rfl sc__law_state.nd (pi_listK K rfl (pe_slice (sl_listK K rfl) (pv 0) po_none (po_some pe_int))) (blkOk_by (N := ["_law_script", "_law_seed", "_law_cell"]) (sc := defScope (topS 29)) (by decide +kernel)) (fun _ _ _ _ _ => by exact (pg_name (i := 2) sc__law_state.nd rfl (Or.inl rfl))) (fun _ _ _ _ _ => by exact (pts_one (pt_cmpR op_ge (pe_callB call_abs (by rfl) T.abs (by decide +kernel) (pa_cons (pv 2) pa_nil)) (pe_op op_pow pe_int pe_int) (nomark _)))) (fun _ _ _ _ _ => by exact (pe_callB call_abs (by rfl) T.abs (by decide +kernel) (pa_cons (pv 2) pa_nil)))) (pe_lst (pa_cons (pv 1) pa_nil))))))), ?_⟩
  obtain ⟨a, ns, rfl, hs, q⟩ := h
  obtain ⟨ms, e1, l1⟩ := cut63 ns
  refine ⟨_, rfl, _, rfl, a, _, rfl, hs, fun c hc => ?_⟩
  rw [e1]
  refine ⟨c, rfl, ⟨_, SqL.of upd_same⟩, for_list (K := K) (a := c) (xs := ms.map V.int) (fun t σ H' => ∃ z y2, σ = [some (.ref a), some (.int z), y2] ∧ 0 ≤ z ∧ z < 2305843009213693951 ∧ Same (upd H c (.lst (ms.map V.int))) H') ⟨7, none, rfl, by decide, by decide, Same.refl _⟩ (fun t σ H' _ ⟨_, _, _, _, _, s⟩ => sqL_mono s (SqL.of upd_same)) ?_ ?_⟩
  · rintro t x σ H' hx ⟨z, y2, rfl, h0, h1, s⟩
    obtain ⟨i, hi, rfl⟩ := map_at hx
    refine ⟨_, rfl, _, _, rfl, rfl, .inl ⟨by omega, by omega⟩, _, rfl, _, _, rfl, rfl, ⟨by decide, by decide, by decide⟩, _, _, rfl, rfl, (show (0 : Int) < 10 ^ (40 : Int).toNat by decide +kernel), _, _, rfl, rfl, _, _, rfl, rfl, _, _, rfl, rfl, (show (0 : Int) < 2305843009213693951 by decide), _, _, rfl, ?_, ?_, s⟩
    · exact Int.emod_nonneg _ (by decide)
    · exact Int.emod_lt_of_pos _ (by decide)
  · rintro σ H1 ⟨z, y2, rfl, h0, h1, s1⟩
    have s01 := (same_new (o := .lst (ms.map V.int)) hc).trans s1
    refine ⟨_, rfl, _, rfl, a, _, rfl, sqL_mono s01 hs, fun c2 hc2 => ?_⟩
    rw [e1]
    have s2 := s01.trans (same_new (o := .lst (ms.map V.int)) hc2)
    refine ⟨c2, rfl, ⟨_, SqL.of upd_same⟩, fun D hD => lc_it (walk_list (K := K) (a := c2) (xs := ms.map V.int)) (fun i H' => Same (upd H1 c2 (.lst (ms.map V.int))) H' ∧ ∃ es : List Int, H' D = some (.lst (es.map V.int)) ∧ es.length ≤ i) ?_ ?_ ?_ ?_⟩
    · exact ⟨same_new hD, [], upd_same, Nat.le_refl _⟩
    · rintro i H' _ ⟨s, _⟩
      exact sqL_mono s (SqL.of upd_same)
    · rintro i x H' H'' hi ⟨s, es, he, hle⟩ ⟨rfl, hx⟩
      obtain ⟨y, hy, rfl⟩ := map_at hx
      rw [List.length_map] at hi
      refine ⟨rfl, _, rfl, _, rfl, _, _, rfl, rfl, ⟨by decide, by decide, by decide⟩, _, _, rfl, rfl, _, rfl, ?_⟩
      cases hb : decide ((10 : Int) ^ (18 : Int).toNat ≤ if y < 0 then -y else y) with
      | false => exact iteF ⟨s, es, he, by omega⟩
      | true =>
        refine iteT ⟨_, rfl, _, rfl, _, he, by rw [List.length_map]; exact lt_line (by omega), fun b u e => ?_, es ++ [if y < 0 then -y else y], ?_, by rw [List.length_append]; exact Nat.add_le_add_right hle 1⟩
        · rw [upd_ne (ne_of_none e hD)]; exact s b u e
        · rw [upd_same, List.map_append]; rfl
    · rintro H2 ⟨s, es, he, hle⟩
      refine ⟨_, rfl, le_line (by simp), fun z1 hz1 => ⟨D, z1, _, _, rfl, rfl, same_new hz1 _ _ he, upd_same, ?_, fun p hp => ?_⟩⟩
      · rw [List.length_map] at *
        exact le_line (by simp; omega)
      · have s3 := (s2.trans s).trans (same_new (o := .lst [.int z]) hz1)
        exact q p _ (s3.trans (same_new hp)) (s3.free hp) ⟨es ++ [z], by simp, by rw [upd_same, List.map_append]; rfl⟩
end
end Tk
namespace Tk
open PySem PySem.Spec PyProof.Rows L2
open SX (S)

section
variable {P : Program} {w : World} {K : PySem.W.Frag} {mg : Str → Option Value} {base : Heap} {C SH : Addr}

theorem sc__law_list : FnScope ["_law_pot", "_law_signs", "_law_cores_here", "_law_core", "_law_k"] ["_law_pot"] (defScope (topS 30)) := ⟨rfl, rfl, rfl, by decide +kernel, rfl, by decide +kernel, by decide +kernel⟩
theorem bn__law_list : Bnd "_law_list" "_law_list" (topS 30) ["_law_pot"] := fun _ _ _ _ _ _ us hl => match us, hl with | [_], _ => rfl
def sgL : List Nat := ("abcdefghijklmnopqrstuvwxyz0123456789" : Str).cps.toList
theorem sgL_len : sgL.length = 36 := by decide +kernel
theorem sgL_lt : ∀ c ∈ sgL, c < 128 := by decide +kernel
theorem q_S : ("q" : Str) = S [113] := by decide +kernel
theorem strs_flat (ws : List Tx) : (strsW ws).all flatV = true := by
  rw [List.all_eq_true]
  intro x hx
  obtain ⟨l, _, rfl⟩ := List.mem_map.mp hx
  rfl
theorem inV_strs (l : Tx) (ws : List Tx) : inV (.str (S l)) (strsW ws) = decide (l ∈ ws) := by
  rw [Bool.eq_iff_iff, decide_eq_true_eq]
  unfold inV strsW
  rw [List.any_eq_true]
  constructor
  · rintro ⟨x, hx, e⟩
    obtain ⟨w, hw, rfl⟩ := List.mem_map.mp hx
    have e2 : (S w == S l) = true := e
    have : w = l := SX.S_inj (eq_of_beq e2)
    rw [← this]; exact hw
  · intro h
    exact ⟨_, List.mem_map_of_mem h, by show (S l == S l) = true; exact beq_self_eq_true _⟩
theorem join_ones (l : Tx) : Txt.join (S []) ((l.map fun c => [c]).map S) = S l := by
  rw [SX.join_S]
  congr 1
  induction l with
  | nil => rfl
  | cons c l ih =>
    cases l with
    | nil => rfl
    | cons d l => 
      rw [List.map_cons] at ih ⊢
      show [c] ++ [] ++ TL.joinL [] _ = _
      rw [ih]; rfl
theorem dpAll_signs {K : PySem.W.Frag} {H : Hp} : ∀ {xs : List V} {l : Tx}, DpAll K H xs (l.map fun c => .str (S [c])) → xs = ((l.map fun c => [c]).map S).map V.str
  | _, [], h => by cases h; rfl
  | _, c :: l, h => by
    rw [List.map_cons] at h
    cases h with
    | cons h1 h2 => rw [dp_str h1, dpAll_signs h2]; rfl
theorem c__law_list (T : Txt K mg C SH) : C8.Cal P w K mg base 2 "_law_list" (sp__law_list K C) [] := by
  have c__law_next : C8.Cal P w K mg base 1 "_law_next" (sp__law_next K C) [] := Tk.c__law_next T
  refine calD T.d__law_list bn__law_list sc__law_list (fun vs H Q E h => by obtain ⟨_, rfl, _⟩ := h; rfl) (fun f cdv A outer s H vs Q E hr h => ?_)
  refine ⟨_, (pss_cons (ps_set (i := 1) sc__law_list.nd rfl (Or.inr rfl) pe_str)
    (pss_cons (ps_set (i := 2) sc__law_list.nd rfl (Or.inl rfl) (pe_lst pa_nil))
    (pss_cons (ps_while PassesOwn.never (pt_cmpR op_lt (pe_callB (call_lenK K rfl) (by rfl) T.len (by decide +kernel) (pa_cons (pv 2) pa_nil)) pe_int (nomark _))
      (pss_cons (ps_set (i := 3) sc__law_list.nd rfl (Or.inl rfl) (pe_join pe_str (pe_lc (own := [("_law_k", 4)]) (tt := tYes) rfl sc__law_list.nd (pi_range1 (by rfl) T.range (pa_cons (pe_op op_add pe_int (C8.pe_c c__law_next hr (by decide) (by rfl) (pa_cons (pv 0) (pa_cons pe_int pa_nil)))) pa_nil)) (blkOk_by (N := ["_law_pot", "_law_signs", "_law_cores_here", "_law_core", "_law_k"]) (sc := defScope (topS 30)) (by decide +kernel)) (fun _ _ _ _ _ => by exact (pg_name (i := 4) sc__law_list.nd rfl (Or.inl rfl))) (fun _ _ _ _ _ => by exact pts_nil) (fun _ _ _ _ _ => by exact (pe_ix ix_str (pv 1) (C8.pe_c c__law_next hr (by decide) (by rfl) (pa_cons (pv 0) (pa_cons pe_int pa_nil))) (fun _ _ => rfl))))))
      (pss_cons (ps_while PassesOwn.never (pt_cmpR (op_inQK K rfl) (pv 3) (pv 2) (by rfl))
        (pss_one (ps_set (i := 3) sc__law_list.nd rfl (Or.inl rfl) (pe_op op_add_str (pv 3) pe_str))))
      (pss_one (ps_expr (pe_bm PySem.F.plainAttrs_list PySem.F.slot_list_append PySem.F.type_list_append mt_append (pv 2) (pa_cons (pv 3) pa_nil)))))))
    (pss_one (ps_ret (pv 2)))))), ?_⟩
  obtain ⟨p, rfl, hp, q⟩ := h
  refine ⟨le_line (by simp), fun o ho => ?_⟩
  have hop : o ≠ p := pot_ne hp ho
  have k0 : Kp (one p) H (upd H o (.lst [])) := .new ho
  have p0 : Pot (upd H o (.lst [])) p := pot_upd hp hop
  have o0 : (upd H o (.lst [])) o = some (.lst (strsW [])) := upd_same
  generalize upd H o (.lst []) = H1 at k0 p0 o0
  refine ⟨fun μ σ H' => ∃ y3 y4 ws, σ = [some (.ref p), some (.str ("abcdefghijklmnopqrstuvwxyz0123456789" : Str)), some (.ref o), y3, y4] ∧ Kp (one p) H H' ∧ Pot H' p ∧ H' o = some (.lst (strsW ws)) ∧ ws.length ≤ 9 ∧ (∀ w ∈ ws, w.length ≤ 8 + ws.length ∧ ∀ c ∈ w, c < 128) ∧ μ = 9 - ws.length,
    ⟨_, none, none, [], rfl, k0, p0, o0, by decide, fun _ h => absurd h List.not_mem_nil, rfl⟩, ?_⟩
  clear k0 p0 o0
  rintro μ σ H2 ⟨y3, y4, ws, rfl, k2, p2, o2, hw9, hws, rfl⟩
  refine ⟨_, rfl, o, _, rfl, .inl (SqL.of o2), _, _, rfl, rfl, _, rfl, ?_⟩
  have hwl : (strsW ws).length = ws.length := by unfold strsW; rw [List.length_map]
  rw [hwl]
  by_cases hlt : ((ws.length : Nat) : Int) < 9
  · rw [decide_eq_true hlt]
    refine iteT ⟨fun σ' H' => ∃ μ', μ' < 9 - ws.length ∧ ∃ y3 y4 ws, σ' = [some (.ref p), some (.str ("abcdefghijklmnopqrstuvwxyz0123456789" : Str)), some (.ref o), y3, y4] ∧ Kp (one p) H H' ∧ Pot H' p ∧ H' o = some (.lst (strsW ws)) ∧ ws.length ≤ 9 ∧ (∀ w ∈ ws, w.length ≤ 8 + ws.length ∧ ∀ c ∈ w, c < 128) ∧ μ' = 9 - ws.length, fun _ _ h => h, ?_⟩
    -- the word
    refine ⟨⟨_, rfl⟩, _, rfl, p, 8, rfl, p2, by decide, by decide, fun d H3 hd k3 p3 => ⟨_, _, rfl, rfl, _, rfl, by omega, by omega, fun D hD => ?_⟩⟩
    have hDp : D ≠ p := pot_ne p3 hD
    refine lc_gen (K := K) (walk_range (lo := 0) (n := (1 + (d : Int)).toNat)) (one p) (fun H' => Pot H' p) (fun i es => ∃ l : Tx, es = (l.map fun c => .str (S [c])) ∧ l.length = i ∧ ∀ c ∈ l, c < 128) hD (lt_line (by omega)) (le_one (pot_some p3)) p3 (fun H' o' h => pot_upd h hDp) ⟨[], rfl, rfl, fun _ h => absurd h List.not_mem_nil⟩ (fun _ _ => trivial) ?_ ?_
    · rintro i x H4 H4' es hi k4 p4 ⟨l, rfl, hll, hl⟩ ⟨rfl, rfl⟩ Q' Qn q' _
      refine ⟨rfl, _, rfl, _, rfl, p, 36, rfl, p4, by decide, by decide, fun d2 H5 hd2 k5 p5 => ?_⟩
      have hlt2 : d2 < sgL.length := by rw [sgL_len]; exact hd2
      have hc : sgL[d2]? = some sgL[d2] := List.getElem?_eq_getElem hlt2
      refine ⟨_, _, _, rfl, rfl, by decide, atI_nat hc, ?_⟩
      refine q' _ _ (.str (S [sgL[d2]])) k5 p5 (.str _) ⟨l ++ [sgL[d2]], by rw [List.map_append]; rfl, by rw [List.length_append, hll]; rfl, fun c hc2 => ?_⟩
      rcases List.mem_append.mp hc2 with h | h
      · exact hl c h
      · rw [List.mem_singleton.mp h]; exact sgL_lt _ (List.getElem_mem hlt2)
    · rintro H4 es k4 p4 ⟨l, rfl, hll, hl⟩ d4
      obtain ⟨xs, hxs, hdx⟩ := sq_lst d4
      rw [dpAll_signs hdx] at hxs
      have hl8 : l.length ≤ 8 := by omega
      refine ⟨S [], D, _, by rw [S_nil], rfl, .inl (sqL_mono (ex_same _ _) hxs), ?_, ?_⟩
      · rw [SX.lens, List.map_map, SX.S_len, List.length_map, List.length_map]
        have e : (l.map (List.length ∘ fun c => [c])).sum = l.length := by
          clear hxs hll hl d4 hl8 hdx
          induction l with
          | nil => rfl
          | cons c l ih => rw [List.map_cons, List.sum_cons, ih, List.length_cons]; show 1 + l.length = l.length + 1; omega
        rw [e]
        show l.length + l.length * 0 ≤ 16777216
        omega
      rw [join_ones]
      have k24 := k2.trans (k3.trans k4)
      have o4 : H4 o = some (.lst (strsW ws)) := (k3.trans k4).1 _ _ (one_ne hop) o2
      refine ⟨fun μ σ H' => ∃ l : Tx, ∃ y4, σ = [some (.ref p), some (.str ("abcdefghijklmnopqrstuvwxyz0123456789" : Str)), some (.ref o), some (.str (S l)), y4] ∧ H' = H4 ∧ l.length ≤ 9 + ws.length ∧ (∀ c ∈ l, c < 128) ∧ μ = 9 + ws.length - l.length, ⟨_, l, y4, rfl, rfl, by omega, hl, rfl⟩, ?_⟩
      clear hxs hdx hll hl d4 hl8 
      rintro μ σ H5 ⟨l, y4, rfl, rfl, hl9, hl, rfl⟩
      refine ⟨_, rfl, _, rfl, o, _, rfl, .inl (SqL.of o4), rfl, strs_flat ws, _, rfl, ?_⟩
      rw [if_neg Bool.false_ne_true, inV_strs]
      by_cases hin : l ∈ ws
      · rw [decide_eq_true hin]
        have hb := (hws l hin).1
        refine iteT ⟨fun σ' H' => ∃ μ', μ' < 9 + ws.length - l.length ∧ ∃ l : Tx, ∃ y4, σ' = [some (.ref p), some (.str ("abcdefghijklmnopqrstuvwxyz0123456789" : Str)), some (.ref o), some (.str (S l)), y4] ∧ H' = H5 ∧ l.length ≤ 9 + ws.length ∧ (∀ c ∈ l, c < 128) ∧ μ' = 9 + ws.length - l.length, fun _ _ h => h, ?_⟩
        refine ⟨_, rfl, _, _, rfl, rfl, ?_, _, ?_, l ++ [113], y4, ?_, rfl, ?_, ?_, rfl⟩
        · rw [SX.S_len]; show l.length + 1 ≤ sizeLine; exact le_line (by omega)
        · rw [List.length_append]; show 9 + ws.length - (l.length + 1) < _; omega
        · rw [q_S, SX.S_cat]; rfl
        · rw [List.length_append]; show l.length + 1 ≤ _; omega
        · intro c hc
          rcases List.mem_append.mp hc with h | h
          · exact hl c h
          · rw [List.mem_singleton.mp h]; decide
      · rw [decide_eq_false hin]
        refine iteF ⟨_, rfl, .inl ⟨rfl, _, SqL.of o4⟩, _, rfl, o, _, _, rfl, rfl, o4, by rw [hwl]; exact lt_line (by omega), _, ?_, _, _, ws ++ [l], rfl, kp_mut k24 ho, ?_, ?_, ?_, ?_, rfl⟩
        · rw [List.length_append]; show 9 - (ws.length + 1) < _; omega
        · exact pot_upd p4 hop
        · rw [upd_same]; unfold strsW; rw [List.map_append]; rfl
        · rw [List.length_append]; show ws.length + 1 ≤ 9; omega
        · intro w hw
          rw [List.length_append]
          rcases List.mem_append.mp hw with h | h
          · exact ⟨Nat.le_trans (hws w h).1 (by show _ ≤ 8 + (ws.length + 1); omega), (hws w h).2⟩
          · rw [List.mem_singleton.mp h]
            exact ⟨by show _ ≤ 8 + (ws.length + 1); omega, hl⟩
  · rw [decide_eq_false hlt]
    have h9 : ws.length = 9 := by omega
    refine iteF ⟨_, rfl, q ws o H2 k2 p2 ho ⟨o2, h9, fun w hw => ⟨?_, (hws w hw).2⟩⟩⟩
    have := (hws w hw).1
    omega
end
end Tk
namespace Tk
open PySem PySem.Spec PyProof.Rows L2
open SX (S)

section
variable {P : Program} {w : World} {K : PySem.W.Frag} {mg : Str → Option Value} {base : Heap} {C SH : Addr}

theorem sc__law_text : FnScope ["_law_pot", "_law_cores_here", "_law_text_here", "_law_k", "_law_word", "_law_way"] ["_law_pot", "_law_cores_here"] (defScope (topS 31)) := ⟨rfl, rfl, rfl, by decide +kernel, rfl, by decide +kernel, by decide +kernel⟩
theorem bn__law_text : Bnd "_law_text" "_law_text" (topS 31) ["_law_pot", "_law_cores_here"] := fun _ _ _ _ _ _ us hl => match us, hl with | [_, _], _ => rfl
theorem o128 {l : Tx} (h : ∀ c ∈ l, c < 128) : l.all (· < 128) = true := List.all_eq_true.mpr fun c hc => decide_eq_true (h c hc)
theorem up_lt {c : Nat} (h : c < 128) : PyProof.Rows.up1 c < 128 := by
  unfold PyProof.Rows.up1
  split <;> omega
theorem up_all {l : Tx} (h : ∀ c ∈ l, c < 128) : ∀ c ∈ l.map PyProof.Rows.up1, c < 128 := fun c hc => by
  obtain ⟨d, hd, rfl⟩ := List.mem_map.mp hc
  exact up_lt (h d hd)
theorem app_all {l m : Tx} (h : ∀ c ∈ l, c < 128) (h2 : ∀ c ∈ m, c < 128) : ∀ c ∈ l ++ m, c < 128 := fun c hc => by
  rcases List.mem_append.mp hc with e | e
  · exact h c e
  · exact h2 c e
/-- the four beginnings, the eight separators -/
def begs : List Tx := [[], [32], [40], [10]]
def seps : List Tx := [[32], [44, 32], [45], [10], [46, 32], [32], [95], []]
theorem begs_S : strsW begs = [.str (""), .str (" "), .str ("("), .str ("\n")] := by decide +kernel
theorem seps_S : strsW seps = [.str (" "), .str (", "), .str ("-"), .str ("\n"), .str (". "), .str (" "), .str ("_"), .str ("")] := by decide +kernel
theorem begs_ok : ∀ w ∈ begs, w.length ≤ 2 ∧ ∀ c ∈ w, c < 128 := by decide +kernel
theorem seps_ok : ∀ w ∈ seps, w.length ≤ 2 ∧ ∀ c ∈ w, c < 128 := by decide +kernel
theorem strs_at {ws : List Tx} {d : Nat} (h : d < ws.length) : (strsW ws)[d]? = some (.str (S ws[d])) := by
  unfold strsW
  rw [List.getElem?_map, List.getElem?_eq_getElem h]
  rfl
def manys : List Nat := [4, 5, 5, 5, 5, 5, 9, 21]
theorem manys_V : vN manys = [.int 4, .int 5, .int 5, .int 5, .int 5, .int 5, .int 9, .int 21] := by decide +kernel
theorem manys_ok : ∀ k ∈ manys, 0 < k ∧ k ≤ 21 := by decide +kernel
theorem vN_at {ks : List Nat} {d : Nat} (h : d < ks.length) : (vN ks)[d]? = some (.int (ks[d] : Int)) := by
  unfold vN
  rw [List.getElem?_map, List.getElem?_eq_getElem h]
  rfl
theorem c__law_text (T : Txt K mg C SH) : C8.Cal P w K mg base 2 "_law_text" (sp__law_text K C) [] := by
  have c__law_next : C8.Cal P w K mg base 1 "_law_next" (sp__law_next K C) [] := Tk.c__law_next T
  refine calD T.d__law_text bn__law_text sc__law_text (fun vs H Q E h => by obtain ⟨_, _, _, rfl, _⟩ := h; rfl) (fun f cdv A outer s H vs Q E hr h => ?_)
  refine ⟨_, (pss_cons (ps_set (i := 2) sc__law_text.nd rfl (Or.inl rfl) (pe_ix (ix_listK K rfl) (pe_lst (pa_cons pe_str (pa_cons pe_str (pa_cons pe_str (pa_cons pe_str pa_nil))))) (C8.pe_c c__law_next hr (by decide) (by rfl) (pa_cons (pv 0) (pa_cons pe_int pa_nil))) (fun _ _ => rfl)))
    (pss_cons (ps_for PassesOwn.never rfl (pi_range1 (by rfl) T.range (pa_cons (C8.pe_c c__law_next hr (by decide) (by rfl) (pa_cons (pv 0) (pa_cons (pe_ix (ix_listK K rfl) (pe_lst (pa_cons pe_int (pa_cons pe_int (pa_cons pe_int (pa_cons pe_int (pa_cons pe_int (pa_cons pe_int (pa_cons pe_int (pa_cons pe_int pa_nil))))))))) (C8.pe_c c__law_next hr (by decide) (by rfl) (pa_cons (pv 0) (pa_cons pe_int pa_nil))) (fun _ _ => rfl)) pa_nil))) pa_nil)) (pg_name (i := 3) sc__law_text.nd rfl (Or.inl rfl))
      (pss_cons (ps_set (i := 4) sc__law_text.nd rfl (Or.inl rfl) (pe_ix (ix_listK K rfl) (pv 1) (C8.pe_c c__law_next hr (by decide) (by rfl) (pa_cons (pv 0) (pa_cons pe_int pa_nil))) (fun _ _ => rfl)))
      (pss_cons (ps_set (i := 5) sc__law_text.nd rfl (Or.inl rfl) (C8.pe_c c__law_next hr (by decide) (by rfl) (pa_cons (pv 0) (pa_cons pe_int pa_nil))))
      (pss_cons (ps_if (pt_cmpR op_eq (pv 5) pe_int (nomark _)) (pss_one (ps_set (i := 4) sc__law_text.nd rfl (Or.inl rfl) (pe_upper (pv 4)))) pss_nil)
      (pss_cons (ps_if (pt_cmpR op_eq (pv 5) pe_int (nomark _)) (pss_one (ps_set (i := 4) sc__law_text.nd rfl (Or.inl rfl) (pe_op op_add_str (pe_upper (pe_slice C8.sl_txt (pv 4) po_none (po_some pe_int))) (pe_slice C8.sl_txt (pv 4) (po_some pe_int) po_none)))) pss_nil)
      (pss_one (ps_set (i := 2) sc__law_text.nd rfl (Or.inl rfl) (pe_op op_add_str (pe_op op_add_str (pv 2) (pv 4)) (pe_ix (ix_listK K rfl) (pe_lst (pa_cons pe_str (pa_cons pe_str (pa_cons pe_str (pa_cons pe_str (pa_cons pe_str (pa_cons pe_str (pa_cons pe_str (pa_cons pe_str pa_nil))))))))) (C8.pe_c c__law_next hr (by decide) (by rfl) (pa_cons (pv 0) (pa_cons pe_int pa_nil))) (fun _ _ => rfl))))))))))
    (pss_one (ps_ret (pv 2))))), ?_⟩
  obtain ⟨p, c, ws, rfl, hp, hw, q⟩ := h
  refine ⟨le_line (by simp), fun b hb => ?_⟩
  have b1 : (upd H b (.lst [.str (""), .str (" "), .str ("("), .str ("\n")])) b = some (.lst (strsW begs)) := by rw [begs_S]; exact upd_same
  have p1 := pot_upd (o := .lst [.str (""), .str (" "), .str ("("), .str ("\n")]) hp (pot_ne hp hb)
  have k1 : Kp (one p) H (upd H b (.lst [.str (""), .str (" "), .str ("("), .str ("\n")])) := .new hb
  generalize upd H b (.lst [.str (""), .str (" "), .str ("("), .str ("\n")]) = H1 at b1 p1 k1
  refine ⟨_, rfl, p, 4, rfl, p1, by decide, by decide, fun d H2 hd k2 p2 => ?_⟩
  have hdl : d < begs.length := hd
  refine ⟨_, _, _, _, rfl, rfl, SqL.of (k2.1 _ _ (one_ne (pot_ne hp hb)) b1), atI_nat (strs_at hdl), ?_⟩
  have hbg := begs_ok _ (List.getElem_mem hdl)
  generalize begs[d] = l0 at hbg
  have k12 := k1.trans k2
  clear b1 p1 k1 k2 hdl
  -- the loop's range
  refine ⟨_, rfl, le_line (by simp), fun b3 hb3 => ?_⟩
  have b1 : (upd H2 b3 (.lst [.int 4, .int 5, .int 5, .int 5, .int 5, .int 5, .int 9, .int 21])) b3 = some (.lst (vN manys)) := by rw [manys_V]; exact upd_same
  have p1 := pot_upd (o := .lst [.int 4, .int 5, .int 5, .int 5, .int 5, .int 5, .int 9, .int 21]) p2 (pot_ne p2 hb3)
  have k1 : Kp (one p) H2 (upd H2 b3 (.lst [.int 4, .int 5, .int 5, .int 5, .int 5, .int 5, .int 9, .int 21])) := .new hb3
  generalize upd H2 b3 (.lst [.int 4, .int 5, .int 5, .int 5, .int 5, .int 5, .int 9, .int 21]) = H3 at b1 p1 k1
  refine ⟨_, rfl, p, 8, rfl, p1, by decide, by decide, fun d4 H4 hd4 k4 p4 => ?_⟩
  have hdl : d4 < manys.length := hd4
  have hmk := manys_ok _ (List.getElem_mem hdl)
  refine ⟨_, _, _, _, rfl, rfl, SqL.of (k4.1 _ _ (one_ne (pot_ne p2 hb3)) b1), atI_nat (vN_at hdl), p, manys[d4], rfl, p4, hmk.1, by omega, fun d5 H5 hd5 k5 p5 => ?_⟩
  have hd20 : d5 ≤ 20 := by omega
  have k15 := k12.trans (k1.trans (k4.trans k5))
  clear b1 p1 k1 k4 hdl hmk k12 p4 k5 hd5
  refine ⟨_, rfl, by omega, by omega, for_range (fun t σ H' => ∃ l y3 y4 y5, σ = [some (.ref p), some (.ref c), some (.str (S l)), y3, y4, y5] ∧ Kp (one p) H H' ∧ Pot H' p ∧ l.length ≤ 2 + 19 * t ∧ ∀ c ∈ l, c < 128) ⟨l0, none, none, none, rfl, k15, p5, hbg.1, hbg.2⟩ ?_ ?_⟩
  · clear k15 p5 p2
    rintro t σ H6 ht ⟨l, y3, y4, y5, rfl, k6, p6, hl, hc⟩
    have ht20 : t < 20 := by omega
    refine ⟨_, rfl, _, rfl, p, 9, rfl, p6, by decide, by decide, fun d7 H7 hd7 k7 p7 => ?_⟩
    have w7 := wds_kp hp hw (k6.trans k7)
    have hdl : d7 < ws.length := by rw [hw.nine]; exact hd7
    refine ⟨_, _, _, _, rfl, rfl, SqL.of w7.at', atI_nat (strs_at hdl), ?_⟩
    have hwo := hw.ok _ (List.getElem_mem hdl)
    generalize ws[d7] = w at hwo
    refine ⟨_, rfl, p, 4, rfl, p7, by decide, by decide, fun d8 H8 hd8 k8 p8 => ?_⟩
    have k68 := k6.trans (k7.trans k8)
    have vi : ∀ a b : Nat, a ≠ b → ¬ V.int (a : Int) = V.int (b : Int) := fun a b h e => h (by injection e with e; omega)
    refine ⟨_, rfl, rfl, _, rfl, ?_⟩
    rcases Nat.lt_or_ge 0 d8 with h0 | h0
    rcases Nat.lt_or_ge 1 d8 with h1 | h1
    · rw [decide_eq_false (show ¬ V.int (d8 : Int) = V.int 0 from vi d8 0 (by omega))]
      refine iteF ⟨_, rfl, rfl, _, rfl, ?_⟩
      rw [decide_eq_false (show ¬ V.int (d8 : Int) = V.int 1 from vi d8 1 (by omega))]
      refine iteF ?_
      refine ⟨_, rfl, _, rfl, _, _, rfl, rfl, ?_, le_line (by simp), fun b9 hb9 => ?_⟩
      · rw [SX.S_len, SX.S_len]
        exact le_line (by have := hwo.1; omega)
      have b1 : (upd H8 b9 (.lst [.str (" "), .str (", "), .str ("-"), .str ("\n"), .str (". "), .str (" "), .str ("_"), .str ("")])) b9 = some (.lst (strsW seps)) := by rw [seps_S]; exact upd_same
      have p1 := pot_upd (o := .lst [.str (" "), .str (", "), .str ("-"), .str ("\n"), .str (". "), .str (" "), .str ("_"), .str ("")]) p8 (pot_ne p8 hb9)
      have k1 : Kp (one p) H8 (upd H8 b9 (.lst [.str (" "), .str (", "), .str ("-"), .str ("\n"), .str (". "), .str (" "), .str ("_"), .str ("")])) := .new hb9
      generalize upd H8 b9 (.lst [.str (" "), .str (", "), .str ("-"), .str ("\n"), .str (". "), .str (" "), .str ("_"), .str ("")]) = H9 at b1 p1 k1
      refine ⟨_, rfl, p, 8, rfl, p1, by decide, by decide, fun d10 H10 hd10 k10 p10 => ?_⟩
      have hdl : d10 < seps.length := hd10
      have hsp := seps_ok _ (List.getElem_mem hdl)
      refine ⟨_, _, _, _, rfl, rfl, SqL.of (k10.1 _ _ (one_ne (pot_ne p8 hb9)) b1), atI_nat (strs_at hdl), ?_⟩
      generalize seps[d10] = sp at hsp
      have h17 := hwo.1
      have h2 := hsp.1
      rw [SX.S_cat]
      refine ⟨_, _, rfl, rfl, ?_, l ++ w ++ sp, some (.int (0 + (t : Int))), some (.str (S w)), some (.int (d8 : Int)), ?_, k68.trans (k1.trans k10), p10, ?_, app_all (app_all hc hwo.2) hsp.2⟩
      · rw [SX.S_len, SX.S_len, List.length_append]
        exact le_line (by omega)
      · rw [SX.S_cat]; rfl
      · rw [List.length_append, List.length_append]
        omega
    · rw [decide_eq_false (show ¬ V.int (d8 : Int) = V.int 0 from vi d8 0 (by omega))]
      refine iteF ⟨_, rfl, rfl, _, rfl, ?_⟩
      rw [decide_eq_true (show V.int (d8 : Int) = V.int 1 from by rw [show d8 = 1 by omega]; rfl)]
      have g1 : (w.take (1 : Int).toNat).length ≤ 17 := Nat.le_trans (List.length_take_le _ _) (by decide)
      have g1c : ∀ c ∈ w.take (1 : Int).toNat, c < 128 := fun c hc => hwo.2 c (List.mem_of_mem_take hc)
      refine iteT ⟨_, rfl, _, rfl, _, rfl, le_line (by rw [SX.S_len]; have := hwo.1; omega), ⟨_, rfl⟩, _, rfl, rfl, ?_, ?_⟩
      · rw [SX.slice_to (by decide), SX.S_len]
        exact Nat.le_trans g1 (by decide)
      refine ⟨_, rfl, _, rfl, _, rfl, le_line (by rw [SX.S_len]; have := hwo.1; omega), _, _, rfl, rfl, ?_⟩
      rw [SX.slice_to (by decide), SX.slice_from (by decide), SX.upper_S (o128 g1c)]
      refine ⟨le_line ?_, ?_⟩
      · rw [SX.S_len, SX.S_len, List.length_map, List.length_drop]
        have := hwo.1
        show (w.take (1 : Int).toNat).length + _ ≤ _
        omega
      rw [SX.S_cat]
      have hwo2 : okW ((w.take (1 : Int).toNat).map PyProof.Rows.up1 ++ w.drop (1 : Int).toNat) := by
        refine ⟨?_, app_all (up_all g1c) fun c hc => hwo.2 c (List.mem_of_mem_drop hc)⟩
        rw [List.length_append, List.length_map, List.length_take, List.length_drop]
        have := hwo.1
        show min 1 w.length + (w.length - 1) ≤ 17
        omega
      generalize (w.take (1 : Int).toNat).map PyProof.Rows.up1 ++ w.drop (1 : Int).toNat = w at hwo2
      have hwo := hwo2
      clear hwo2
      refine ⟨_, rfl, _, rfl, _, _, rfl, rfl, ?_, le_line (by simp), fun b9 hb9 => ?_⟩
      · rw [SX.S_len, SX.S_len]
        exact le_line (by have := hwo.1; omega)
      have b1 : (upd H8 b9 (.lst [.str (" "), .str (", "), .str ("-"), .str ("\n"), .str (". "), .str (" "), .str ("_"), .str ("")])) b9 = some (.lst (strsW seps)) := by rw [seps_S]; exact upd_same
      have p1 := pot_upd (o := .lst [.str (" "), .str (", "), .str ("-"), .str ("\n"), .str (". "), .str (" "), .str ("_"), .str ("")]) p8 (pot_ne p8 hb9)
      have k1 : Kp (one p) H8 (upd H8 b9 (.lst [.str (" "), .str (", "), .str ("-"), .str ("\n"), .str (". "), .str (" "), .str ("_"), .str ("")])) := .new hb9
      generalize upd H8 b9 (.lst [.str (" "), .str (", "), .str ("-"), .str ("\n"), .str (". "), .str (" "), .str ("_"), .str ("")]) = H9 at b1 p1 k1
      refine ⟨_, rfl, p, 8, rfl, p1, by decide, by decide, fun d10 H10 hd10 k10 p10 => ?_⟩
      have hdl : d10 < seps.length := hd10
      have hsp := seps_ok _ (List.getElem_mem hdl)
      refine ⟨_, _, _, _, rfl, rfl, SqL.of (k10.1 _ _ (one_ne (pot_ne p8 hb9)) b1), atI_nat (strs_at hdl), ?_⟩
      generalize seps[d10] = sp at hsp
      have h17 := hwo.1
      have h2 := hsp.1
      rw [SX.S_cat]
      refine ⟨_, _, rfl, rfl, ?_, l ++ w ++ sp, some (.int (0 + (t : Int))), some (.str (S w)), some (.int (d8 : Int)), ?_, k68.trans (k1.trans k10), p10, ?_, app_all (app_all hc hwo.2) hsp.2⟩
      · rw [SX.S_len, SX.S_len, List.length_append]
        exact le_line (by omega)
      · rw [SX.S_cat]; rfl
      · rw [List.length_append, List.length_append]
        omega
    · rw [decide_eq_true (show V.int (d8 : Int) = V.int 0 from by rw [show d8 = 0 by omega]; rfl)]
      refine iteT ⟨_, rfl, ⟨_, rfl⟩, _, rfl, rfl, by rw [SX.S_len]; have := hwo.1; omega, ?_⟩
      rw [SX.upper_S (o128 hwo.2)]
      have hwo2 : okW (w.map PyProof.Rows.up1) := ⟨by rw [List.length_map]; exact hwo.1, up_all hwo.2⟩
      generalize w.map PyProof.Rows.up1 = w at hwo2
      have hwo := hwo2
      clear hwo2
      refine ⟨_, rfl, rfl, _, rfl, ?_⟩
      rw [decide_eq_false (show ¬ V.int (d8 : Int) = V.int 1 from vi d8 1 (by omega))]
      refine iteF ?_
      refine ⟨_, rfl, _, rfl, _, _, rfl, rfl, ?_, le_line (by simp), fun b9 hb9 => ?_⟩
      · rw [SX.S_len, SX.S_len]
        exact le_line (by have := hwo.1; omega)
      have b1 : (upd H8 b9 (.lst [.str (" "), .str (", "), .str ("-"), .str ("\n"), .str (". "), .str (" "), .str ("_"), .str ("")])) b9 = some (.lst (strsW seps)) := by rw [seps_S]; exact upd_same
      have p1 := pot_upd (o := .lst [.str (" "), .str (", "), .str ("-"), .str ("\n"), .str (". "), .str (" "), .str ("_"), .str ("")]) p8 (pot_ne p8 hb9)
      have k1 : Kp (one p) H8 (upd H8 b9 (.lst [.str (" "), .str (", "), .str ("-"), .str ("\n"), .str (". "), .str (" "), .str ("_"), .str ("")])) := .new hb9
      generalize upd H8 b9 (.lst [.str (" "), .str (", "), .str ("-"), .str ("\n"), .str (". "), .str (" "), .str ("_"), .str ("")]) = H9 at b1 p1 k1
      refine ⟨_, rfl, p, 8, rfl, p1, by decide, by decide, fun d10 H10 hd10 k10 p10 => ?_⟩
      have hdl : d10 < seps.length := hd10
      have hsp := seps_ok _ (List.getElem_mem hdl)
      refine ⟨_, _, _, _, rfl, rfl, SqL.of (k10.1 _ _ (one_ne (pot_ne p8 hb9)) b1), atI_nat (strs_at hdl), ?_⟩
      generalize seps[d10] = sp at hsp
      have h17 := hwo.1
      have h2 := hsp.1
      rw [SX.S_cat]
      refine ⟨_, _, rfl, rfl, ?_, l ++ w ++ sp, some (.int (0 + (t : Int))), some (.str (S w)), some (.int (d8 : Int)), ?_, k68.trans (k1.trans k10), p10, ?_, app_all (app_all hc hwo.2) hsp.2⟩
      · rw [SX.S_len, SX.S_len, List.length_append]
        exact le_line (by omega)
      · rw [SX.S_cat]; rfl
      · rw [List.length_append, List.length_append]
        omega
  · rintro σ H6 ⟨l, y3, y4, y5, rfl, k6, p6, hl, hc⟩
    have e : ((d5 : Int)).toNat = d5 := by omega
    rw [e] at hl
    exact ⟨_, rfl, q l H6 k6 p6 ⟨by omega, hc⟩⟩
end
end Tk
namespace Tk
open PySem PySem.Spec PyProof.Rows L2
open SX (S)

section
variable {P : Program} {w : World} {K : PySem.W.Frag} {mg : Str → Option Value} {base : Heap} {C SH : Addr}

theorem sc__law_texts : FnScope ["_law_pot", "_law_cores_here", "_law_many", "_law_k"] ["_law_pot", "_law_cores_here", "_law_many"] (defScope (topS 32)) := ⟨rfl, rfl, rfl, by decide +kernel, rfl, by decide +kernel, by decide +kernel⟩
theorem bn__law_texts : Bnd "_law_texts" "_law_texts" (topS 32) ["_law_pot", "_law_cores_here", "_law_many"] := fun _ _ _ _ _ _ us hl => match us, hl with | [_, _, _], _ => rfl

theorem c__law_texts (T : Txt K mg C SH) : C8.Cal P w K mg base 3 "_law_texts" (sp__law_texts K C) [] := by
  have c__law_text : C8.Cal P w K mg base 2 "_law_text" (sp__law_text K C) [] := Tk.c__law_text T
  refine calD T.d__law_texts bn__law_texts sc__law_texts (fun vs H Q E h => by obtain ⟨_, _, _, _, rfl, _⟩ := h; rfl) (fun f cdv A outer s H vs Q E hr h => ?_)
  refine ⟨_, (pss_one (ps_ret (pe_tupleOfK K rfl (by rfl) T.tuple (pe_lc (own := [("_law_k", 3)]) (tt := tYes) rfl sc__law_texts.nd (pi_range1 (by rfl) T.range (pa_cons (pv 2) pa_nil)) (blkOk_by (N := ["_law_pot", "_law_cores_here", "_law_many", "_law_k"]) (sc := defScope (topS 32)) (by decide +kernel)) (fun _ _ _ _ _ => by exact (pg_name (i := 3) sc__law_texts.nd rfl (Or.inl rfl))) (fun _ _ _ _ _ => by exact pts_nil) (fun _ _ _ _ _ => by exact (C8.pe_c c__law_text hr (by decide) (by rfl) (pa_cons (pv 0) (pa_cons (pv 1) pa_nil)))))))), ?_⟩
  obtain ⟨p, c, ws, k, rfl, hp, hw, hk, q⟩ := h
  have e0 : ((k : Nat) : Int).toNat = k := by omega
  refine ⟨_, rfl, _, rfl, by omega, by omega, fun D hD => ?_⟩
  have hDp : D ≠ p := pot_ne hp hD
  refine lc_gen (K := K) (walk_range (lo := 0) (n := (k : Int).toNat)) (one p) (fun H' => Pot H' p) (fun i es => ∃ ts : List Tx, es = ts.map sD ∧ ts.length = i ∧ ∀ t ∈ ts, okT t) hD (lt_line (by omega)) (le_one (pot_some hp)) hp (fun H' o' h => pot_upd h hDp) ⟨[], rfl, rfl, fun _ h => absurd h List.not_mem_nil⟩ (fun _ _ => trivial) ?_ ?_
  · rintro i x H4 H4' es hi k4 p4 ⟨ts, rfl, hll, hl⟩ ⟨rfl, rfl⟩ Q' Qn q' _
    refine ⟨rfl, _, rfl, _, rfl, p, c, ws, rfl, p4, wds_kp hp hw k4, fun l H5 k5 p5 hlk => ?_⟩
    refine q' _ _ (sD l) k5 p5 (.str _) ⟨ts ++ [l], by rw [List.map_append]; rfl, by rw [List.length_append, hll]; rfl, fun t ht => ?_⟩
    rcases List.mem_append.mp ht with h | h
    · exact hl t h
    · rw [List.mem_singleton.mp h]; exact hlk
  · rintro H4 es k4 p4 ⟨ts, rfl, hll, hl⟩ d4
    obtain ⟨xs, hxs, hdx⟩ := sq_lst d4
    refine .inl ⟨D, _, rfl, sqL_mono (ex_same _ _) hxs, fun z hz => q ts _ _ (k4.trans (.new hz)) (pot_upd p4 (pot_ne p4 hz)) (by omega) hl ?_⟩
    exact .tup (nw_newT (k4.free hz) upd_same) (dpa_up hdx (nw_ex (same_new hz)))
end
end Tk
namespace Tk
open PySem PySem.Spec PyProof.Rows L2
open SX (S)

section
variable {P : Program} {w : World} {K : PySem.W.Frag} {mg : Str → Option Value} {base : Heap} {C SH : Addr}

theorem sc__law_known : FnScope ["_law_pot", "_law_lefts", "_law_rights", "_law_known_here", "_law_k", "_law_pair"] ["_law_pot", "_law_lefts", "_law_rights"] (defScope (topS 33)) := ⟨rfl, rfl, rfl, by decide +kernel, rfl, by decide +kernel, by decide +kernel⟩
theorem bn__law_known : Bnd "_law_known" "_law_known" (topS 33) ["_law_pot", "_law_lefts", "_law_rights"] := fun _ _ _ _ _ _ us hl => match us, hl with | [_, _, _], _ => rfl
def kms : List Nat := [3, 5, 13]
theorem kms_V : vN kms = [.int 3, .int 5, .int 13] := by decide +kernel
theorem kms_ok : ∀ k ∈ kms, 0 < k ∧ k ≤ 13 := by decide +kernel
theorem kn_at {ks : List Nat} {d : Nat} (h : d < ks.length) : (vN ks)[d]? = some (.int (ks[d] : Int)) := by
  unfold vN
  rw [List.getElem?_map, List.getElem?_eq_getElem h]
  rfl
theorem wd_at {ws : List Tx} {d : Nat} (h : d < ws.length) : (strsW ws)[d]? = some (.str (S ws[d])) := by
  unfold strsW
  rw [List.getElem?_map, List.getElem?_eq_getElem h]
  rfl
theorem lay_sD {t : Tx} (h : ∀ c ∈ t, c < 128) : (sD t).canLay0 = true := by
  unfold sD
  rw [PyData.canLay0]
  unfold S PyData.strOk
  rw [Array.all_eq_true']
  intro c hc
  exact decide_eq_true (Nat.lt_trans (h c (by simpa using hc)) (by decide))
theorem shp_prD (q : Tx × Tx) (h1 : ∀ c ∈ q.1, c < 128) (h2 : ∀ c ∈ q.2, c < 128) : (prD q).canLay0 = true ∧ (prD q).depth ≤ 1 := by
  refine ⟨lay_tup ?_, dep_tup ?_⟩
  · simp [PyData.canLayAll0, lay_sD h1, lay_sD h2]
  · unfold sD; simp [PyData.depthAll, PyData.depth]
theorem c__law_known (T : Txt K mg C SH) : C8.Cal P w K mg base 2 "_law_known" (sp__law_known K C) [] := by
  have c__law_next : C8.Cal P w K mg base 1 "_law_next" (sp__law_next K C) [] := Tk.c__law_next T
  refine calD T.d__law_known bn__law_known sc__law_known (fun vs H Q E h => by obtain ⟨_, _, _, _, _, rfl, _⟩ := h; rfl) (fun f cdv A outer s H vs Q E hr h => ?_)
  refine ⟨_, (pss_cons (ps_set (i := 3) sc__law_known.nd rfl (Or.inl rfl) (pe_lst pa_nil))
    (pss_cons (ps_for PassesOwn.never rfl (pi_range1 (by rfl) T.range (pa_cons (C8.pe_c c__law_next hr (by decide) (by rfl) (pa_cons (pv 0) (pa_cons (pe_ix (ix_listK K rfl) (pe_lst (pa_cons pe_int (pa_cons pe_int (pa_cons pe_int pa_nil)))) (C8.pe_c c__law_next hr (by decide) (by rfl) (pa_cons (pv 0) (pa_cons pe_int pa_nil))) (fun _ _ => rfl)) pa_nil))) pa_nil)) (pg_name (i := 4) sc__law_known.nd rfl (Or.inl rfl))
      (pss_cons (ps_set (i := 5) sc__law_known.nd rfl (Or.inl rfl) (pe_tup (pa_cons (pe_ix (ix_listK K rfl) (pv 1) (C8.pe_c c__law_next hr (by decide) (by rfl) (pa_cons (pv 0) (pa_cons pe_int pa_nil))) (fun _ _ => rfl)) (pa_cons (pe_ix (ix_listK K rfl) (pv 2) (C8.pe_c c__law_next hr (by decide) (by rfl) (pa_cons (pv 0) (pa_cons pe_int pa_nil))) (fun _ _ => rfl)) pa_nil))))
      (pss_one (ps_if (pt_cmpR (op_notInDK K rfl (un65 hr)) (pv 5) (pv 3) (by rfl)) (pss_one (ps_expr (pe_bm PySem.F.plainAttrs_list PySem.F.slot_list_append PySem.F.type_list_append mt_append (pv 3) (pa_cons (pv 5) pa_nil)))) pss_nil))))
    (pss_one (ps_ret (pe_tupleOfK K rfl (by rfl) T.tuple (pv 3)))))), ?_⟩
  obtain ⟨p, c, d, ws, us, rfl, hp, hw, hu, q⟩ := h
  refine ⟨le_line (by simp), fun o ho => ?_⟩
  have hop := pot_ne hp ho
  have p0 := pot_upd (o := .lst []) hp hop
  have A0 : Acc K (one p) H o (upd H o (.lst [])) [] := acc_new (Kp.refl _ _) ho
  have hS : Le (one p) (dm H) := le_one (pot_some hp)
  generalize upd H o (.lst []) = H1 at p0 A0
  refine ⟨_, rfl, le_line (by simp), fun b hb => ?_⟩
  have b1 : (upd H1 b (.lst [.int 3, .int 5, .int 13])) b = some (.lst (vN kms)) := by rw [kms_V]; exact upd_same
  have p1 := pot_upd (o := .lst [.int 3, .int 5, .int 13]) p0 (pot_ne p0 hb)
  have A1 := acc_kp hS ho A0 (.new (o := .lst [.int 3, .int 5, .int 13]) hb)
  have hbp := pot_ne p0 hb
  generalize upd H1 b (.lst [.int 3, .int 5, .int 13]) = H2 at b1 p1 A1
  refine ⟨_, rfl, p, 3, rfl, p1, by decide, by decide, fun d3 H3 hd3 k3 p3 => ?_⟩
  have hdl : d3 < kms.length := hd3
  have hmk := kms_ok _ (List.getElem_mem hdl)
  refine ⟨_, _, _, _, rfl, rfl, SqL.of (k3.1 _ _ (one_ne hbp) b1), atI_nat (kn_at hdl), p, kms[d3], rfl, p3, hmk.1, by omega, fun d4 H4 hd4 k4 p4 => ?_⟩
  have hd12 : d4 ≤ 12 := by omega
  have A4 := acc_kp hS ho A1 (k3.trans k4)
  clear A0 A1 p0 p1 p3 b1 k3 k4 hmk hdl hd4
  refine ⟨_, rfl, by omega, by omega, for_range (fun t σ H' => ∃ (kn : List (Tx × Tx)) (y4 y5 : Option V), σ = [some (.ref p), some (.ref c), some (.ref d), some (.ref o), y4, y5] ∧ Acc K (one p) H o H' (kn.map prD) ∧ Pot H' p ∧ kn.length ≤ t ∧ ∀ q ∈ kn, okT q.1 ∧ okT q.2) ⟨[], none, none, rfl, A4, p4, Nat.le_refl _, fun _ h => absurd h List.not_mem_nil⟩ ?_ ?_⟩
  · clear A4 p4
    rintro t σ H5 ht ⟨kn, y4, y5, rfl, A5, p5, hl, hok⟩
    have k5 := A5.1
    refine ⟨_, rfl, _, rfl, p, 9, rfl, p5, by decide, by decide, fun d6 H6 hd6 k6 p6 => ?_⟩
    have w6 := wds_kp hp hw (k5.trans k6)
    have hl6 : d6 < ws.length := by rw [hw.nine]; exact hd6
    refine ⟨_, _, _, _, rfl, rfl, SqL.of w6.at', atI_nat (wd_at hl6), ?_⟩
    refine ⟨_, rfl, _, rfl, p, 9, rfl, p6, by decide, by decide, fun d7 H7 hd7 k7 p7 => ?_⟩
    have w7 := wds_kp hp hu (k5.trans (k6.trans k7))
    have hl7 : d7 < us.length := by rw [hu.nine]; exact hd7
    refine ⟨_, _, _, _, rfl, rfl, SqL.of w7.at', atI_nat (wd_at hl7), le_line (by simp), fun z hz => ?_⟩
    have o1 := okW_T (hw.ok _ (List.getElem_mem hl6))
    have o2 := okW_T (hu.ok _ (List.getElem_mem hl7))
    generalize ws[d6] = x1 at o1
    generalize us[d7] = x2 at o2
    have k58 : Kp (one p) H5 (upd H7 z (.tup [.str (S x1), .str (S x2)])) := k6.trans (k7.trans (.new hz))
    have dz : Dp K (nw H5 (upd H7 z (.tup [.str (S x1), .str (S x2)]))) (.ref z) (prD (x1, x2)) := .tup (nw_newT ((k6.trans k7).free hz) upd_same) (.cons (.str _) (.cons (.str _) .nil))
    have p8 := pot_upd (o := .tup [.str (S x1), .str (S x2)]) p7 (pot_ne p7 hz)
    generalize upd H7 z (.tup [.str (S x1), .str (S x2)]) = H8 at k58 dz p8
    have A8 := acc_kp hS ho A5 k58
    obtain ⟨acc, ha, hda⟩ := id A5.2
    have ha8 := k58.1 _ _ (one_ne hop) ha
    have ln := acc_len A5 ha
    rw [List.length_map] at ln
    have lay1 := shp_prD (x1, x2) o1.2 o2.2
    refine ⟨_, rfl, _, rfl, prD (x1, x2), kn.map prD, dp_up dz (ex_same _ _), acc_dp ho A8, shaped_of lay1.1 lay1.2, shaped_of (k := 2) (lay_lst (layAll_map fun q hq => (shp_prD q (hok q hq).1.2 (hok q hq).2.2).1)) (dep_lst (depAll_map fun q hq => (shp_prD q (hok q hq).1.2 (hok q hq).2.2).2)), _, rfl, ?_⟩
    cases hb : (!((kn.map prD).any fun z => PyData.eqv z (prD (x1, x2)))) with
    | false => exact iteF ⟨kn, _, _, rfl, A8, p8, by omega, hok⟩
    | true =>
      have A9 := acc_push hS ho A5 ha k58 dz
      refine iteT ⟨_, rfl, .inl ⟨rfl, _, SqL.of ha8⟩, _, rfl, o, _, _, rfl, rfl, ha8, lt_line (by omega), kn ++ [(x1, x2)], _, _, rfl, by rw [List.map_append]; exact A9, pot_upd p8 hop, by rw [List.length_append]; exact Nat.add_le_add_right hl 1, fun q hq => ?_⟩
      rcases List.mem_append.mp hq with h | h
      · exact hok q h
      · rw [List.mem_singleton.mp h]; exact ⟨o1, o2⟩
  · rintro σ H5 ⟨kn, y4, y5, rfl, A5, p5, hl, hok⟩
    obtain ⟨acc, ha, hda⟩ := id A5.2
    refine ⟨_, rfl, .inl ⟨o, _, rfl, SqL.of ha, fun z hz => q kn _ _ (A5.1.trans (.new hz)) (pot_upd p5 (pot_ne p5 hz)) (by omega) hok (acc_tup ho A5 ha hz)⟩⟩
end
end Tk
namespace Tk
open PySem PySem.Spec PyProof.Rows L2
open SX (S)

section
variable {P : Program} {w : World} {K : PySem.W.Frag} {mg : Str → Option Value} {base : Heap} {C SH : Addr}

theorem sc__law_prices : FnScope ["_law_pot", "_law_k"] ["_law_pot"] (defScope (topS 34)) := ⟨rfl, rfl, rfl, by decide +kernel, rfl, by decide +kernel, by decide +kernel⟩
theorem bn__law_prices : Bnd "_law_prices" "_law_prices" (topS 34) ["_law_pot"] := fun _ _ _ _ _ _ us hl => match us, hl with | [_], _ => rfl
def tops : List Nat := [1, 2, 4, 12, 40, 1000001]
theorem tops_V : vN tops = [.int 1, .int 2, .int 4, .int 12, .int 40, .int 1000001] := by decide +kernel
theorem tops_ok : ∀ k ∈ tops, 0 < k ∧ k ≤ 1000001 := by decide +kernel
theorem nat_at {ks : List Nat} {d : Nat} (h : d < ks.length) : (vN ks)[d]? = some (.int (ks[d] : Int)) := by
  unfold vN
  rw [List.getElem?_map, List.getElem?_eq_getElem h]
  rfl
theorem c__law_prices (T : Txt K mg C SH) : C8.Cal P w K mg base 2 "_law_prices" (sp__law_prices K C) [] := by
  have c__law_next : C8.Cal P w K mg base 1 "_law_next" (sp__law_next K C) [] := Tk.c__law_next T
  refine calD T.d__law_prices bn__law_prices sc__law_prices (fun vs H Q E h => by obtain ⟨_, rfl, _⟩ := h; rfl) (fun f cdv A outer s H vs Q E hr h => ?_)
  refine ⟨_, (pss_one (ps_ret (pe_tupleOfK K rfl (by rfl) T.tuple (pe_lc (own := [("_law_k", 1)]) (tt := tYes) rfl sc__law_prices.nd (pi_range1 (by rfl) T.range (pa_cons pe_int pa_nil)) (blkOk_by (N := ["_law_pot", "_law_k"]) (sc := defScope (topS 34)) (by decide +kernel)) (fun _ _ _ _ _ => by exact (pg_name (i := 1) sc__law_prices.nd rfl (Or.inl rfl))) (fun _ _ _ _ _ => by exact pts_nil) (fun _ _ _ _ _ => by exact (C8.pe_c c__law_next hr (by decide) (by rfl) (pa_cons (pv 0) (pa_cons (pe_ix (ix_listK K rfl) (pe_lst (pa_cons pe_int (pa_cons pe_int (pa_cons pe_int (pa_cons pe_int (pa_cons pe_int (pa_cons pe_int pa_nil))))))) (C8.pe_c c__law_next hr (by decide) (by rfl) (pa_cons (pv 0) (pa_cons pe_int pa_nil))) (fun _ _ => rfl)) pa_nil)))))))), ?_⟩
  obtain ⟨p, rfl, hp, q⟩ := h
  refine ⟨_, rfl, by decide, by decide, fun D hD => ?_⟩
  have hDp : D ≠ p := pot_ne hp hD
  refine lc_gen (K := K) (walk_range (lo := 0) (n := (5 : Int).toNat)) (one p) (fun H' => Pot H' p) (fun i es => ∃ ps : List Int, es = ps.map .int ∧ ps.length = i ∧ ∀ x ∈ ps, sml x) hD (by decide) (le_one (pot_some hp)) hp (fun H' o' h => pot_upd h hDp) ⟨[], rfl, rfl, fun _ h => absurd h List.not_mem_nil⟩ (fun _ _ => trivial) ?_ ?_
  · rintro i x H4 H4' es hi k4 p4 ⟨ps, rfl, hll, hl⟩ ⟨rfl, rfl⟩ Q' Qn q' _
    refine ⟨rfl, _, rfl, le_line (by simp), fun b hb => ?_⟩
    have b1 : (upd H4' b (.lst [.int 1, .int 2, .int 4, .int 12, .int 40, .int 1000001])) b = some (.lst (vN tops)) := by rw [tops_V]; exact upd_same
    have p1 := pot_upd (o := .lst [.int 1, .int 2, .int 4, .int 12, .int 40, .int 1000001]) p4 (pot_ne p4 hb)
    have k1 : Kp (one p) H4' (upd H4' b (.lst [.int 1, .int 2, .int 4, .int 12, .int 40, .int 1000001])) := .new hb
    generalize upd H4' b (.lst [.int 1, .int 2, .int 4, .int 12, .int 40, .int 1000001]) = H5 at b1 p1 k1
    refine ⟨_, rfl, p, 6, rfl, p1, by decide, by decide, fun d H6 hd k6 p6 => ?_⟩
    have hdl : d < tops.length := hd
    have hmk := tops_ok _ (List.getElem_mem hdl)
    refine ⟨_, _, _, _, rfl, rfl, SqL.of (k6.1 _ _ (one_ne (pot_ne p4 hb)) b1), atI_nat (nat_at hdl), p, tops[d], rfl, p6, hmk.1, by omega, fun d7 H7 hd7 k7 p7 => ?_⟩
    refine q' _ _ (.int (d7 : Int)) (k1.trans (k6.trans k7)) p7 (.int _) ⟨ps ++ [(d7 : Int)], by rw [List.map_append]; rfl, by rw [List.length_append, hll]; rfl, fun x hx => ?_⟩
    rcases List.mem_append.mp hx with h | h
    · exact hl x h
    · rw [List.mem_singleton.mp h]; exact ⟨by omega, by omega⟩
  · rintro H4 es k4 p4 ⟨ps, rfl, hll, hl⟩ d4
    obtain ⟨xs, hxs, hdx⟩ := sq_lst d4
    refine .inl ⟨D, _, rfl, sqL_mono (ex_same _ _) hxs, fun z hz => q ps _ _ (k4.trans (.new hz)) (pot_upd p4 (pot_ne p4 hz)) hll hl ?_⟩
    exact .tup (nw_newT (k4.free hz) upd_same) (dpa_up hdx (nw_ex (same_new hz)))
end
end Tk
namespace Tk
open PySem PySem.Spec PyProof.Rows L2
open SX (S)

section
variable {P : Program} {w : World} {K : PySem.W.Frag} {mg : Str → Option Value} {base : Heap} {C SH : Addr}

theorem sc__law_drawn : FnScope ["_law_pot", "_law_most", "_law_more", "_law_lefts", "_law_rights", "_law_ones", "_law_others"] ["_law_pot", "_law_most", "_law_more"] (defScope (topS 35)) := ⟨rfl, rfl, rfl, by decide +kernel, rfl, by decide +kernel, by decide +kernel⟩
theorem bn__law_drawn : Bnd "_law_drawn" "_law_drawn" (topS 35) ["_law_pot", "_law_most", "_law_more"] := fun _ _ _ _ _ _ us hl => match us, hl with | [_, _, _], _ => rfl
theorem dp_kp {K : PySem.W.Frag} {H0 H1 H2 : Hp} {p : Addr} {v : V} {d : PyData} (h : Dp K (nw H0 H1) v d) (k : Kp (one p) H1 H2) (hp : dm H0 p = true) : Dp K (nw H0 H2) v d := dp_up h (k.mono (le_one hp)).ex
theorem cut_ws {ws us : List Tx} (h1 : ws.length = 9) (h2 : us.length = 9) : cutV (strsW ws) (some 4) none ++ cutV (strsW us) none (some 4) = strsW (ws.drop 4 ++ us.take 4) := by
  have l1 : (strsW ws).length = 9 := by unfold strsW; rw [List.length_map, h1]
  have l2 : (strsW us).length = 9 := by unfold strsW; rw [List.length_map, h2]
  unfold cutV
  rw [l1, l2]
  show (((strsW ws).drop 4).take (9 - 4)) ++ (((strsW us).drop 0).take (4 - 0)) = _
  rw [List.take_of_length_le (by rw [List.length_drop, l1]; decide), List.drop_zero]
  unfold strsW
  rw [List.map_append, List.map_drop, List.map_take]
theorem c__law_drawn (T : Txt K mg C SH) : C8.Cal P w K mg base 4 "_law_drawn" (sp__law_drawn K C) [] := by
  have c__law_known : C8.Cal P w K mg base 2 "_law_known" (sp__law_known K C) [] := Tk.c__law_known T
  have c__law_list : C8.Cal P w K mg base 2 "_law_list" (sp__law_list K C) [] := Tk.c__law_list T
  have c__law_next : C8.Cal P w K mg base 1 "_law_next" (sp__law_next K C) [] := Tk.c__law_next T
  have c__law_prices : C8.Cal P w K mg base 2 "_law_prices" (sp__law_prices K C) [] := Tk.c__law_prices T
  have c__law_texts : C8.Cal P w K mg base 3 "_law_texts" (sp__law_texts K C) [] := Tk.c__law_texts T
  refine calD T.d__law_drawn bn__law_drawn sc__law_drawn (fun vs H Q E h => by obtain ⟨_, _, _, rfl, _⟩ := h; rfl) (fun f cdv A outer s H vs Q E hr h => ?_)
  refine ⟨_, (pss_cons (ps_par (i := 3) (j := 4) rfl sc__law_drawn.nd rfl rfl (by decide) rfl rfl (pa_cons (C8.pe_c c__law_list hr (by decide) (by rfl) (pa_cons (pv 0) pa_nil)) (pa_cons (C8.pe_c c__law_list hr (by decide) (by rfl) (pa_cons (pv 0) pa_nil)) pa_nil)) (by rfl))
    (pss_cons (ps_if (pt_cmpR op_eq (C8.pe_c c__law_next hr (by decide) (by rfl) (pa_cons (pv 0) (pa_cons pe_int pa_nil))) pe_int (nomark _)) (pss_one (ps_set (i := 4) sc__law_drawn.nd rfl (Or.inl rfl) (pe_op op_cat (pe_slice (sl_listK K rfl) (pv 3) (po_some pe_int) po_none) (pe_slice (sl_listK K rfl) (pv 4) po_none (po_some pe_int))))) pss_nil)
    (pss_cons (ps_set (i := 5) sc__law_drawn.nd rfl (Or.inl rfl) (C8.pe_c c__law_texts hr (by decide) (by rfl) (pa_cons (pv 0) (pa_cons (pv 3) (pa_cons (C8.pe_c c__law_next hr (by decide) (by rfl) (pa_cons (pv 0) (pa_cons (pe_op op_add (pv 1) pe_int) pa_nil))) pa_nil)))))
    (pss_cons (ps_set (i := 6) sc__law_drawn.nd rfl (Or.inl rfl) (C8.pe_c c__law_texts hr (by decide) (by rfl) (pa_cons (pv 0) (pa_cons (pv 4) (pa_cons (C8.pe_c c__law_next hr (by decide) (by rfl) (pa_cons (pv 0) (pa_cons (pe_op op_add (pv 2) pe_int) pa_nil))) pa_nil)))))
    (pss_one (ps_ret (pe_tup (pa_cons (pv 5) (pa_cons (pv 6) (pa_cons (C8.pe_c c__law_known hr (by decide) (by rfl) (pa_cons (pv 0) (pa_cons (pv 3) (pa_cons (pv 4) pa_nil)))) (pa_cons (C8.pe_c c__law_prices hr (by decide) (by rfl) (pa_cons (pv 0) pa_nil)) pa_nil))))))))))), ?_⟩
  obtain ⟨p, a, b, rfl, hp, ha, hb, q⟩ := h
  refine ⟨_, rfl, p, rfl, hp, fun ws ol H1 k1 p1 hol WL1 => ⟨_, rfl, p, rfl, p1, fun us or H2 k2 p2 hor WR2 => ⟨_, _, rfl, ?_⟩⟩⟩
  have WL2 := wds_kp p1 WL1 k2
  refine ⟨_, rfl, p, 4, rfl, p2, by decide, by decide, fun d H5 hd k5 p5 => ⟨rfl, _, rfl, ?_⟩⟩
  have WL5 := wds_kp p2 WL2 k5
  have WR5 := wds_kp p2 WR2 k5
  have k05 := k1.trans (k2.trans k5)
  cases hd0 : decide (V.int (d : Int) = V.int 0) with
  | false =>
    refine iteF ?_
    refine ⟨_, rfl, _, rfl, _, rfl, _, rfl, _, _, rfl, rfl, p, a + 1, rfl, p5, Nat.succ_pos _, by omega, fun d6 H6 hd6 k6 p6 => ?_⟩
    have WL6 := wds_kp p5 WL5 k6
    refine ⟨p, ol, ws, d6, rfl, p6, WL6, by omega, fun ts1 v1 H7 k7 p7 hl7 ht7 dt7 => ?_⟩
    refine ⟨_, rfl, _, rfl, _, rfl, _, rfl, _, _, rfl, rfl, p, b + 1, rfl, p7, Nat.succ_pos _, by omega, fun d8 H8 hd8 k8 p8 => ?_⟩
    have WR8 := wds_kp p5 WR5 (k6.trans (k7.trans k8))
    have WL8 := wds_kp p5 WL5 (k6.trans (k7.trans k8))
    refine ⟨p, or, us, d8, rfl, p8, WR8, by omega, fun ts2 v2 H9 k9 p9 hl9 ht9 dt9 => ?_⟩
    refine ⟨_, rfl, _, rfl, _, rfl, _, rfl, _, rfl, p, ol, or, ws, us, rfl, p9, wds_kp p8 WL8 k9, wds_kp p8 WR8 k9, fun kn v3 H10 k10 p10 hl10 hk10 dk10 => ?_⟩
    refine ⟨_, rfl, p, rfl, p10, fun ps v4 H11 k11 p11 hl11 hp11 dp11 => ?_⟩
    match ps, hl11 with
    | [a1, a2, a3, a4, a5], _ =>
    have kt : Kp (one p) H H11 := k05.trans (k6.trans (k7.trans (k8.trans (k9.trans (k10.trans k11)))))
    refine ⟨le_line (by simp), fun z hz => q ⟨ts1, ts2, kn, a1, a2, a3, a4, a5⟩ _ _ (kt.trans (.new hz)) (pot_upd p11 (pot_ne p11 hz)) ⟨ht7, ht9, by show ts1.length ≤ 30; omega, by show ts2.length ≤ 30; omega, hl10, hk10, hp11 a1 (by simp), hp11 a2 (by simp), hp11 a3 (by simp), hp11 a4 (by simp), hp11 a5 (by simp)⟩ ?_⟩
    have e1 : Dp K (nw H H11) v1 (txsD ts1) := dp_up (dp_kp dt7 (k8.trans (k9.trans (k10.trans k11))) (pot_some p6)) (nw_nw (k05.trans k6).dm)
    have e2 : Dp K (nw H H11) v2 (txsD ts2) := dp_up (dp_kp dt9 (k10.trans k11) (pot_some p8)) (nw_nw (k05.trans (k6.trans (k7.trans k8))).dm)
    have e3 : Dp K (nw H H11) v3 (.tuple (kn.map prD)) := dp_up (dp_kp dk10 k11 (pot_some p9)) (nw_nw (k05.trans (k6.trans (k7.trans (k8.trans k9)))).dm)
    have e4 : Dp K (nw H H11) v4 (.tuple ([a1, a2, a3, a4, a5].map .int)) := dp_up dp11 (nw_nw (k05.trans (k6.trans (k7.trans (k8.trans (k9.trans k10))))).dm)
    exact .tup (nw_newT (kt.free hz) upd_same) (dpa_up (.cons e1 (.cons e2 (.cons e3 (.cons e4 .nil)))) (nw_ex (same_new hz)))
  | true =>
    refine iteT ⟨_, rfl, _, rfl, ol, _, rfl, SqL.of WL5.at', fun z1 hz1 => ⟨_, rfl, _, rfl, or, _, rfl, SqL.of (same_new hz1 _ _ WR5.at'), fun z2 hz2 => ⟨z1, z2, _, _, rfl, rfl, same_new hz2 _ _ upd_same, upd_same, ?_, fun z3 hz3 => ?_⟩⟩⟩
    · have l1 := cutV_length (strsW ws) (some 4) none
      have l2 := cutV_length (strsW us) none (some 4)
      unfold strsW at l1 l2
      rw [List.length_map, WL5.nine] at l1
      rw [List.length_map, WR5.nine] at l2
      exact le_line (by unfold strsW; omega)
    have k5' : Kp (one p) H5 (upd (upd (upd H5 z1 (.lst (cutV (strsW ws) (some 4) none))) z2 (.lst (cutV (strsW us) none (some 4)))) z3 (.lst (cutV (strsW ws) (some 4) none ++ cutV (strsW us) none (some 4)))) := (Kp.new hz1).trans ((Kp.new hz2).trans (.new hz3))
    have WR5' : Wds (upd (upd (upd H5 z1 (.lst (cutV (strsW ws) (some 4) none))) z2 (.lst (cutV (strsW us) none (some 4)))) z3 (.lst (cutV (strsW ws) (some 4) none ++ cutV (strsW us) none (some 4)))) z3 (ws.drop 4 ++ us.take 4) := by
      refine ⟨by rw [upd_same, cut_ws WL5.nine WR5.nine], ?_, fun w hw => ?_⟩
      · rw [List.length_append, List.length_drop, List.length_take, WL5.nine, WR5.nine]; rfl
      · rcases List.mem_append.mp hw with h | h
        · exact WL5.ok w (List.mem_of_mem_drop h)
        · exact WR5.ok w (List.mem_of_mem_take h)
    have p5' := pot_upd (o := .lst (cutV (strsW ws) (some 4) none ++ cutV (strsW us) none (some 4))) (pot_upd (o := .lst (cutV (strsW us) none (some 4))) (pot_upd (o := .lst (cutV (strsW ws) (some 4) none)) p5 (pot_ne p5 hz1)) (pot_ne (pot_upd p5 (pot_ne p5 hz1)) hz2)) (pot_ne (pot_upd (pot_upd p5 (pot_ne p5 hz1)) (pot_ne (pot_upd p5 (pot_ne p5 hz1)) hz2)) hz3)
    have WL5' := wds_kp p5 WL5 k5'
    have k05' := k05.trans k5'
    generalize upd (upd (upd H5 z1 (.lst (cutV (strsW ws) (some 4) none))) z2 (.lst (cutV (strsW us) none (some 4)))) z3 (.lst (cutV (strsW ws) (some 4) none ++ cutV (strsW us) none (some 4))) = H5' at k5' WR5' p5' WL5' k05'
    clear WR5 WL5 p5 k05 WR2 hor
    have WR5 := WR5'
    have WL5 := WL5'
    have p5 := p5'
    have k05 := k05'
    generalize ws.drop 4 ++ us.take 4 = us at WR5
    refine ⟨_, rfl, _, rfl, _, rfl, _, rfl, _, _, rfl, rfl, p, a + 1, rfl, p5, Nat.succ_pos _, by omega, fun d6 H6 hd6 k6 p6 => ?_⟩
    have WL6 := wds_kp p5 WL5 k6
    refine ⟨p, ol, ws, d6, rfl, p6, WL6, by omega, fun ts1 v1 H7 k7 p7 hl7 ht7 dt7 => ?_⟩
    refine ⟨_, rfl, _, rfl, _, rfl, _, rfl, _, _, rfl, rfl, p, b + 1, rfl, p7, Nat.succ_pos _, by omega, fun d8 H8 hd8 k8 p8 => ?_⟩
    have WR8 := wds_kp p5 WR5 (k6.trans (k7.trans k8))
    have WL8 := wds_kp p5 WL5 (k6.trans (k7.trans k8))
    refine ⟨p, z3, us, d8, rfl, p8, WR8, by omega, fun ts2 v2 H9 k9 p9 hl9 ht9 dt9 => ?_⟩
    refine ⟨_, rfl, _, rfl, _, rfl, _, rfl, _, rfl, p, ol, z3, ws, us, rfl, p9, wds_kp p8 WL8 k9, wds_kp p8 WR8 k9, fun kn v3 H10 k10 p10 hl10 hk10 dk10 => ?_⟩
    refine ⟨_, rfl, p, rfl, p10, fun ps v4 H11 k11 p11 hl11 hp11 dp11 => ?_⟩
    match ps, hl11 with
    | [a1, a2, a3, a4, a5], _ =>
    have kt : Kp (one p) H H11 := k05.trans (k6.trans (k7.trans (k8.trans (k9.trans (k10.trans k11)))))
    refine ⟨le_line (by simp), fun z hz => q ⟨ts1, ts2, kn, a1, a2, a3, a4, a5⟩ _ _ (kt.trans (.new hz)) (pot_upd p11 (pot_ne p11 hz)) ⟨ht7, ht9, by show ts1.length ≤ 30; omega, by show ts2.length ≤ 30; omega, hl10, hk10, hp11 a1 (by simp), hp11 a2 (by simp), hp11 a3 (by simp), hp11 a4 (by simp), hp11 a5 (by simp)⟩ ?_⟩
    have e1 : Dp K (nw H H11) v1 (txsD ts1) := dp_up (dp_kp dt7 (k8.trans (k9.trans (k10.trans k11))) (pot_some p6)) (nw_nw (k05.trans k6).dm)
    have e2 : Dp K (nw H H11) v2 (txsD ts2) := dp_up (dp_kp dt9 (k10.trans k11) (pot_some p8)) (nw_nw (k05.trans (k6.trans (k7.trans k8))).dm)
    have e3 : Dp K (nw H H11) v3 (.tuple (kn.map prD)) := dp_up (dp_kp dk10 k11 (pot_some p9)) (nw_nw (k05.trans (k6.trans (k7.trans (k8.trans k9)))).dm)
    have e4 : Dp K (nw H H11) v4 (.tuple ([a1, a2, a3, a4, a5].map .int)) := dp_up dp11 (nw_nw (k05.trans (k6.trans (k7.trans (k8.trans (k9.trans k10))))).dm)
    exact .tup (nw_newT (kt.free hz) upd_same) (dpa_up (.cons e1 (.cons e2 (.cons e3 (.cons e4 .nil)))) (nw_ex (same_new hz)))
end
end Tk
namespace Tk
open PySem PySem.Spec PyProof.Rows L2
open SX (S)
/-! ### the law's own reckoning -/
def coresD (l : Tx) : PyData := .list ((cors l).map sD)
def cellD (l : Tx) : PyData := .tuple [.int ((sizT l : Nat) : Int), coresD l]
def rowD (ts : List Tx) : PyData := .list (ts.map cellD)
def sidesD (P : Prc) : PyData := .list [rowD P.ones, rowD P.others]
/-- letters and figures, the great ones left out -/
def lsL : List Nat := ("abcdefghijklmnopqrstuvwxyz0123456789" : Str).cps.toList
def lst2 (p : List Tx × Tx) (c : Nat) : List Tx × Tx := if decide (c ∈ lsL) = true then (p.1, p.2 ++ [c]) else if p.2 = [] then p else (p.1 ++ [p.2], [])
theorem isW_lo : ∀ c, c < 128 → decide (PyProof.Rows.lo1 c ∈ lsL) = isW c := by decide +kernel
theorem blk_out : decide (32 ∈ lsL) = false := by decide +kernel
def lom (p : List Tx × Tx) : List Tx × Tx := (p.1.map fun w => w.map PyProof.Rows.lo1, p.2.map PyProof.Rows.lo1)
theorem lst2_lom (p : List Tx × Tx) {c : Nat} (h : c < 128) : lst2 (lom p) (PyProof.Rows.lo1 c) = lom (wst p c) := by
  unfold lst2 wst
  rw [isW_lo c h]
  cases isW c with
  | true => simp [lom]
  | false =>
    rw [if_neg Bool.false_ne_true, if_neg Bool.false_ne_true]
    by_cases e : p.2 = []
    · rw [if_pos e, if_pos (by simp [lom, e])]
    · rw [if_neg e, if_neg (by simpa [lom] using e)]
      simp [lom]
theorem fold_lom : ∀ (l : Tx) (p : List Tx × Tx), (∀ c ∈ l, c < 128) → (l.map PyProof.Rows.lo1).foldl lst2 (lom p) = lom (l.foldl wst p)
  | [], _, _ => rfl
  | c :: l, p, h => by
    rw [List.map_cons, List.foldl_cons, List.foldl_cons, lst2_lom p (h c (List.mem_cons_self ..))]
    exact fold_lom l _ fun d hd => h d (List.mem_cons_of_mem _ hd)
/-- what the law splits is what the words are -/
theorem law_cors (l : Tx) (h : ∀ c ∈ l, c < 128) : ((l.map PyProof.Rows.lo1 ++ [32]).foldl lst2 ([], [])).1 = cors l := by
  have e := fold_lom l ([], []) h
  rw [List.foldl_append]
  have e0 : (([], []) : List Tx × Tx) = lom ([], []) := rfl
  rw [e0, e]
  unfold cors wrds wend
  generalize l.foldl wst ([], []) = p
  rw [List.foldl_cons, List.foldl_nil]
  unfold lst2
  rw [blk_out, if_neg Bool.false_ne_true]
  by_cases hp : p.2 = []
  · rw [if_pos (by simp [lom, hp]), if_pos hp]; rfl
  · rw [if_neg (by simpa [lom] using hp), if_neg hp, List.map_append]; rfl
theorem lo_lt {c : Nat} (h : c < 128) : PyProof.Rows.lo1 c < 128 := by
  unfold PyProof.Rows.lo1
  split <;> omega
theorem lst2_len (l : Tx) : ∀ (p : List Tx × Tx) (n : Nat), p.1.length ≤ n → (l.foldl lst2 p).1.length ≤ n + l.length := by
  induction l with
  | nil => intro p n h; exact h
  | cons c l ih =>
    intro p n h
    rw [List.foldl_cons, List.length_cons]
    have : (lst2 p c).1.length ≤ n + 1 := by
      unfold lst2
      split
      · exact Nat.le_succ_of_le h
      · split
        · exact Nat.le_succ_of_le h
        · rw [List.length_append]; exact Nat.add_le_add_right h 1
    have := ih (lst2 p c) (n + 1) this
    omega
theorem lst2_run (l : Tx) : ∀ (p : List Tx × Tx) (n : Nat), p.2.length ≤ n → (l.foldl lst2 p).2.length ≤ n + l.length := by
  induction l with
  | nil => intro p n h; exact h
  | cons c l ih =>
    intro p n h
    rw [List.foldl_cons, List.length_cons]
    have : (lst2 p c).2.length ≤ n + 1 := by
      unfold lst2
      split
      · rw [List.length_append]; exact Nat.add_le_add_right h 1
      · split
        · exact Nat.le_succ_of_le h
        · exact Nat.zero_le _
    have := ih (lst2 p c) (n + 1) this
    omega
/-- the law's steps -/
def lcell (i j m n a b : Nat) : List Stp := if (i + a ≤ m ∧ j + b ≤ n) ∧ (a + b = 1 ∨ min a b = 1) then [[((List.range a).map (i + ·), (List.range b).map (j + ·))]] else []
def lrow (i j m n a k : Nat) : List Stp := (List.range k).flatMap (lcell i j m n a)
def lpart (i j m n k : Nat) : List Stp := (List.range k).flatMap fun a => lrow i j m n a 4
def lstP (i j m n : Nat) : List Stp := lpart i j m n 4 ++ if i + 2 ≤ m ∧ j + 2 ≤ n then [[([i], [j + 1]), ([i + 1], [j])]] else []
theorem flat_len {α : Type} {f : Nat → List α} {b : Nat} : ∀ k, (∀ a, (f a).length ≤ b) → ((List.range k).flatMap f).length ≤ k * b
  | 0, _ => by simp
  | k + 1, h => by
    rw [List.range_succ, List.flatMap_append, List.length_append, Nat.succ_mul]
    have h1 := flat_len k h
    have h2 := h k
    have e : (List.flatMap f [k]).length = (f k).length := by simp
    rw [e]
    omega
theorem lcell_len (i j m n a b : Nat) : (lcell i j m n a b).length ≤ 1 := by
  unfold lcell
  split <;> simp
theorem lrow_len (i j m n a k : Nat) : (lrow i j m n a k).length ≤ k := by
  have := flat_len (f := lcell i j m n a) (b := 1) k (fun b => lcell_len i j m n a b)
  unfold lrow
  omega
theorem lpart_len (i j m n k : Nat) : (lpart i j m n k).length ≤ k * 4 := flat_len k fun a => lrow_len i j m n a 4
theorem lstP_len (i j m n : Nat) : (lstP i j m n).length ≤ 17 := by
  unfold lstP
  rw [List.length_append]
  have := lpart_len i j m n 4
  split
  · show _ + 1 ≤ 17; omega
  · show _ + 0 ≤ 17; omega
theorem mem_lstP {i j m n : Nat} (hi : i ≤ m) (hj : j ≤ n) {s : Stp} : s ∈ lstP i j m n ↔ s ∈ stpP i j m n := by
  rw [mem_stpP]
  unfold lstP lpart lrow lcell
  rw [List.mem_append]
  constructor
  · rintro (h | h)
    · obtain ⟨a, ha, h⟩ := List.mem_flatMap.mp h
      obtain ⟨b, hb, h⟩ := List.mem_flatMap.mp h
      rw [List.mem_range] at ha hb
      split at h
      case isFalse => exact absurd h List.not_mem_nil
      case isTrue hc =>
        rw [List.mem_singleton.mp h]
        obtain ⟨⟨h1, h2⟩, h3⟩ := hc
        have mk : ∀ a b, (a, b) ∈ SHP → i + a ≤ m → j + b ≤ n → IsStp i j m n [((List.range a).map (i + ·), (List.range b).map (j + ·))] := fun a b h h1 h2 => .pair (a, b) h h1 h2
        match a, b, ha, hb, h3 with
        | 1, 0, _, _, _ => exact .left (by omega)
        | 0, 1, _, _, _ => exact .right (by omega)
        | 1, 1, _, _, _ => exact mk 1 1 (by decide) h1 h2
        | 1, 2, _, _, _ => exact mk 1 2 (by decide) h1 h2
        | 1, 3, _, _, _ => exact mk 1 3 (by decide) h1 h2
        | 2, 1, _, _, _ => exact mk 2 1 (by decide) h1 h2
        | 3, 1, _, _, _ => exact mk 3 1 (by decide) h1 h2
        | 0, 0, _, _, h3 => omega
        | 0, 2, _, _, h3 => omega
        | 0, 3, _, _, h3 => omega
        | 2, 0, _, _, h3 => omega
        | 3, 0, _, _, h3 => omega
        | 2, 2, _, _, h3 => omega
        | 2, 3, _, _, h3 => omega
        | 3, 2, _, _, h3 => omega
        | 3, 3, _, _, h3 => omega
    · split at h
      case isFalse => exact absurd h List.not_mem_nil
      case isTrue hc => rw [List.mem_singleton.mp h]; exact .cross hc.1 hc.2
  · have go : ∀ a b, a < 4 → b < 4 → i + a ≤ m → j + b ≤ n → (a + b = 1 ∨ min a b = 1) → [((List.range a).map (i + ·), (List.range b).map (j + ·))] ∈ (List.range 4).flatMap fun a => (List.range 4).flatMap fun b => if (i + a ≤ m ∧ j + b ≤ n) ∧ (a + b = 1 ∨ min a b = 1) then [[((List.range a).map (i + ·), (List.range b).map (j + ·))]] else [] := by
      intro a b ha hb h1 h2 h3
      refine List.mem_flatMap.mpr ⟨a, List.mem_range.mpr ha, List.mem_flatMap.mpr ⟨b, List.mem_range.mpr hb, ?_⟩⟩
      rw [if_pos ⟨⟨h1, h2⟩, h3⟩]
      exact List.mem_singleton.mpr rfl
    intro h
    cases h with
    | left h => exact .inl (go 1 0 (by decide) (by decide) (by omega) (by omega) (.inl rfl))
    | right h => exact .inl (go 0 1 (by decide) (by decide) (by omega) (by omega) (.inl rfl))
    | pair p hp h1 h2 =>
      unfold SHP at hp
      simp only [List.mem_cons, List.not_mem_nil, or_false] at hp
      rcases hp with hp | hp | hp | hp | hp <;> subst hp
      · exact .inl (go 1 1 (by decide) (by decide) h1 h2 (.inr rfl))
      · exact .inl (go 1 2 (by decide) (by decide) h1 h2 (.inr rfl))
      · exact .inl (go 1 3 (by decide) (by decide) h1 h2 (.inr rfl))
      · exact .inl (go 2 1 (by decide) (by decide) h1 h2 (.inr rfl))
      · exact .inl (go 3 1 (by decide) (by decide) h1 h2 (.inr rfl))
    | cross h1 h2 => exact .inr (by rw [if_pos ⟨h1, h2⟩]; exact List.mem_singleton.mpr rfl)
/-! ### the promises of the law's defs -/
def lawC (K : PySem.W.Frag) (H : Hp) (P : Prc) (s k p : V) : Prop := okP P ∧ Dp K H s (sidesD P) ∧ Dp K H k (knD P) ∧ Dp K H p (prsD P)
theorem lawC_mono {K : PySem.W.Frag} {H H' : Hp} {P : Prc} {s k p : V} (sm : Same H H') (h : lawC K H P s k p) : lawC K H' P s k p := ⟨h.1, dp_up h.2.1 sm, dp_up h.2.2.1 sm, dp_up h.2.2.2 sm⟩
def sp__law_cores (K : PySem.W.Frag) (C : Addr) : Sp := fun vs H Q _ => ∃ l : Tx, vs = [.str (S l)] ∧ okT l ∧ RetN K (coresD l) H Q
def sp__law_sides (K : PySem.W.Frag) (C : Addr) : Sp := fun vs H Q _ => ∃ (a b : V) (P : Prc), vs = [a, b] ∧ okP P ∧ Dp K H a (txsD P.ones) ∧ Dp K H b (txsD P.others) ∧ RetN K (sidesD P) H Q
def sp__law_link (K : PySem.W.Frag) (C : Addr) : Sp := fun vs H Q _ => ∃ (s x k p : V) (P : Prc) (l : Lk), vs = [s, x, k, p] ∧ lawC K H P s k p ∧ Dp K H x (lkD l) ∧ okL P l ∧ RetF (.int (lkC P l)) H Q
def sp__law_step (K : PySem.W.Frag) (C : Addr) : Sp := fun vs H Q _ => ∃ (s x k p : V) (P : Prc) (st : Stp), vs = [s, x, k, p] ∧ lawC K H P s k p ∧ Dp K H x (stD st) ∧ okS P st ∧ 1 ≤ st.length ∧ RetF (.int (stC P st)) H Q
def sp__law_steps (K : PySem.W.Frag) (C : Addr) : Sp := fun vs H Q _ => ∃ (i j m n : Nat), vs = [.int (i : Int), .int (j : Int), .int (m : Int), .int (n : Int)] ∧ i ≤ m ∧ j ≤ n ∧ m ≤ 30 ∧ n ≤ 30 ∧ RetN K (.list ((lstP i j m n).map stD)) H Q
def sp__law_on (K : PySem.W.Frag) (C : Addr) : Sp := fun vs H Q _ => ∃ (v : V) (st : Stp) (i j : Nat), vs = [v, .int (i : Int), .int (j : Int)] ∧ Dp K H v (stD st) ∧ st.length ≤ 2 ∧ RetN K (prD2 (endP st i j)) H Q
def sp__law_any_way (K : PySem.W.Frag) (C : Addr) : Sp := fun vs H Q _ => ∃ (p : Addr) (m n : Nat), vs = [.ref p, .int (m : Int), .int (n : Int)] ∧ Pot H p ∧ m ≤ 30 ∧ n ≤ 30 ∧ ∀ w v H', Kp (one p) H H' → Pot H' p → Path m n 0 0 w → Dp K (nw H H') v (wayD w) → Q v H'
def sp__law_paid (K : PySem.W.Frag) (C : Addr) : Sp := fun vs H Q _ => ∃ (s k p x : V) (P : Prc) (w : List Stp), vs = [s, k, p, x] ∧ lawC K H P s k p ∧ Dp K H x (wayD w) ∧ Path P.ones.length P.others.length 0 0 w ∧ RetF (.int (wayC P w)) H Q
def sp__law_through (K : PySem.W.Frag) (C : Addr) : Sp := fun vs H Q _ => ∃ (x : V) (m n : Nat) (w : List Stp), vs = [x, .int (m : Int), .int (n : Int)] ∧ m ≤ 30 ∧ n ≤ 30 ∧ Dp K H x (wayD w) ∧ Path m n 0 0 w ∧ RetF (.bl true) H Q
def sp__law_grid_holds (K : PySem.W.Frag) (C : Addr) : Sp := fun vs H Q _ => ∃ (s k p x : V) (P : Prc) (m n : Nat) (g : List (List Int)), vs = [s, k, p, .int (m : Int), .int (n : Int), x] ∧ lawC K H P s k p ∧ m = P.ones.length ∧ n = P.others.length ∧ Dp K H x (pD g) ∧ Grd m n g ∧ Ups P m n g ∧ RetF (.bl true) H Q
def sp__law_whole (K : PySem.W.Frag) (C : Addr) : Sp := fun vs H Q _ => ∃ i : Int, vs = [.int i] ∧ RetF (.bl true) H Q
def sp__law_wholes (K : PySem.W.Frag) (C : Addr) : Sp := fun vs H Q _ => ∃ (v : V) (ns : List Int) (k : Int), vs = [v, .int k] ∧ Dp K H v (.tuple (ns.map .int)) ∧ (ns.length : Int) = k ∧ ns.length ≤ 1000 ∧ RetF (.bl true) H Q
def sp__law_kinds (K : PySem.W.Frag) (C : Addr) : Sp := fun vs H Q _ => ∃ (t : V) (m n : Nat) (c : Int) (w : List Stp) (g : List (List Int)), vs = [t, .int (m : Int), .int (n : Int)] ∧ m ≤ 30 ∧ n ≤ 30 ∧ Dp K H t (tolD c w g) ∧ Grd m n g ∧ (∀ s ∈ w, sml3 s) ∧ w.length ≤ 1000 ∧ RetF (.bl true) H Q
end Tk
namespace Tk
open PySem PySem.Spec PyProof.Rows L2
open SX (S)

section
variable {P : Program} {w : World} {K : PySem.W.Frag} {mg : Str → Option Value} {base : Heap} {C SH : Addr}

theorem sc__law_cores : FnScope ["_law_text_here", "_law_cores_here", "_law_core", "_law_sign"] ["_law_text_here"] (defScope (topS 36)) := ⟨rfl, rfl, rfl, by decide +kernel, rfl, by decide +kernel, by decide +kernel⟩
theorem bn__law_cores : Bnd "_law_cores" "_law_cores" (topS 36) ["_law_text_here"] := fun _ _ _ _ _ _ us hl => match us, hl with | [_], _ => rfl
theorem c_lsL : ("abcdefghijklmnopqrstuvwxyz0123456789" : Str).cps.toList = lsL := rfl
theorem c_nil : (Str.ofString "") = S [] := by decide +kernel
theorem c_blk : (Str.ofString " ") = S [32] := by decide +kernel
theorem strsW_dp (K : PySem.W.Frag) (H : Hp) (ts : List Tx) : DpAll K H (strsW ts) (ts.map sD) := by
  have e : (ts.map sD) = (ts.map S).map PyData.str := by rw [List.map_map]; rfl
  have e2 : strsW ts = (ts.map S).map V.str := by unfold strsW; rw [List.map_map]; rfl
  rw [e, e2]
  exact strs_dp _
theorem c__law_cores (T : Txt K mg C SH) : C8.Cal P w K mg base 1 "_law_cores" (sp__law_cores K C) [] := by
  refine calD T.d__law_cores bn__law_cores sc__law_cores (fun vs H Q E h => by obtain ⟨_, rfl, _⟩ := h; rfl) (fun f cdv A outer s H vs Q E hr h => ?_)
  refine ⟨_, (pss_cons (ps_set (i := 1) sc__law_cores.nd rfl (Or.inl rfl) (pe_lst pa_nil))
    (pss_cons (ps_set (i := 2) sc__law_cores.nd rfl (Or.inl rfl) pe_str)
    (pss_cons (ps_for PassesOwn.never rfl (pi_str (pe_op op_add_str (pe_lower (pv 0)) pe_str)) (pg_name (i := 3) sc__law_cores.nd rfl (Or.inl rfl))
      (pss_one (ps_if (pt_cmpR op_in_sign (pv 3) pe_str rfl) (pss_one (ps_set (i := 2) sc__law_cores.nd rfl (Or.inl rfl) (pe_op op_add_str (pv 2) (pv 3)))) (pss_one (ps_if (pt_cmpR op_ne (pv 2) pe_str (nomark _)) (pss_cons (ps_expr (pe_bm PySem.F.plainAttrs_list PySem.F.slot_list_append PySem.F.type_list_append mt_append (pv 1) (pa_cons (pv 2) pa_nil)))
          (pss_one (ps_set (i := 2) sc__law_cores.nd rfl (Or.inl rfl) pe_str))) pss_nil)))))
    (pss_one (ps_ret (pv 1)))))), ?_⟩
  obtain ⟨l, rfl, ⟨hl, hc⟩, q⟩ := h
  refine ⟨le_line (by simp), fun o no => ?_⟩
  refine ⟨_, rfl, ⟨_, rfl⟩, S l, rfl, rfl, by rw [SX.S_len]; omega, _, _, rfl, rfl, ?_, ?_⟩
  · rw [SX.lower_S (List.all_eq_true.mpr fun c h => decide_eq_true (hc c h)), SX.S_len, List.length_map]
    show l.length + 1 ≤ sizeLine
    exact le_line (by omega)
  rw [SX.lower_S (List.all_eq_true.mpr fun c h => decide_eq_true (hc c h)), c_blk, SX.S_cat]
  have hcor := law_cors l hc
  have hll : (l.map PyProof.Rows.lo1 ++ [32]).length ≤ 1001 := by rw [List.length_append, List.length_map]; show l.length + 1 ≤ 1001; omega
  generalize l.map PyProof.Rows.lo1 ++ [32] = l2 at hcor hll
  refine ⟨S l2, rfl, for_it (walk_str (z := S l2)) (fun i σ H' => ∃ y, σ = [some (.str (S l)), some (.ref o), some (.str (S ((l2.take i).foldl lst2 ([], [])).2)), y] ∧ Same H H' ∧ H' o = some (.lst (strsW ((l2.take i).foldl lst2 ([], [])).1)))
    ⟨none, by rw [c_nil]; rfl, same_new no, upd_same⟩ (fun _ _ _ _ _ => trivial) ?_ ?_⟩
  · rintro i x σ H1 H' hi ⟨y, rfl, s, ho⟩ ⟨rfl, c, hci, rfl⟩
    have hli := S_at hci
    have hil := at_lt hli
    have e1 : (l2.take (i + 1)).foldl lst2 ([], []) = lst2 ((l2.take i).foldl lst2 ([], [])) c := by rw [take_at hli, List.foldl_append]; rfl
    have l1 := lst2_len (l2.take i) ([], []) 0 (Nat.le_refl _)
    have l3 := lst2_run (l2.take i) ([], []) 0 (Nat.le_refl _)
    rw [List.length_take] at l1 l3
    rw [e1]
    generalize (l2.take i).foldl lst2 ([], []) = p at l1 l3 ho ⊢
    refine ⟨_, rfl, c, _, rfl, rfl, _, rfl, ?_⟩
    rw [c_lsL]
    unfold lst2
    cases hw : decide (c ∈ lsL) with
    | true =>
      refine iteT ⟨_, rfl, _, rfl, _, _, rfl, rfl, ?_, some (.str ⟨#[c]⟩), ?_, s, ?_⟩
      · show (S p.2).length + 1 ≤ sizeLine
        rw [SX.S_len]
        exact le_line (by omega)
      · rw [S_snoc]; rfl
      · exact ho
    | false =>
      refine iteF ⟨_, rfl, rfl, _, rfl, ?_⟩
      rw [c_nil]
      by_cases hp : p.2 = []
      · rw [decide_eq_true (S_ne_nil.mpr hp), if_pos hp]
        exact iteF ⟨some (.str ⟨#[c]⟩), rfl, s, ho⟩
      · rw [decide_eq_false (fun z => hp (S_ne_nil.mp z)), if_neg hp]
        refine iteT ⟨_, rfl, .inl ⟨rfl, _, SqL.of ho⟩, _, rfl, o, _, _, rfl, rfl, ho, ?_, some (.str ⟨#[c]⟩), ?_, ?_, ?_⟩
        · unfold strsW
          rw [List.length_map]
          exact lt_line (by omega)
        · rfl
        · intro a u e
          rw [upd_ne (ne_of_none e no)]
          exact s a u e
        · rw [upd_same]
          unfold strsW
          rw [if_neg Bool.false_ne_true, List.map_append]
          rfl
  · rintro σ H' ⟨y, rfl, s, ho⟩
    rw [S_size, List.take_length, hcor] at ho
    exact ⟨_, rfl, q _ _ s (.lst (nw_new no ho) (strsW_dp K _ _))⟩
end
end Tk
namespace Tk
open PySem PySem.Spec PyProof.Rows L2
open SX (S)

section
variable {P : Program} {w : World} {K : PySem.W.Frag} {mg : Str → Option Value} {base : Heap} {C SH : Addr}

theorem sc__law_sides : FnScope ["_law_ones", "_law_others", "_law_sides_here", "_law_row", "_law_text_here", "_law_sign"] ["_law_ones", "_law_others"] (defScope (topS 37)) := ⟨rfl, rfl, rfl, by decide +kernel, rfl, by decide +kernel, by decide +kernel⟩
theorem bn__law_sides : Bnd "_law_sides" "_law_sides" (topS 37) ["_law_ones", "_law_others"] := fun _ _ _ _ _ _ us hl => match us, hl with | [_, _], _ => rfl
theorem b_codes : ((" \n" : Str)).cps.toList = [32, 10] := by decide +kernel
theorem c__law_sides (T : Txt K mg C SH) : C8.Cal P w K mg base 2 "_law_sides" (sp__law_sides K C) [] := by
  have c__law_cores : C8.Cal P w K mg base 1 "_law_cores" (sp__law_cores K C) [] := Tk.c__law_cores T
  refine calD T.d__law_sides bn__law_sides sc__law_sides (fun vs H Q E h => by obtain ⟨_, _, _, rfl, _⟩ := h; rfl) (fun f cdv A outer s H vs Q E hr h => ?_)
  refine ⟨_, (pss_cons (ps_set (i := 2) sc__law_sides.nd rfl (Or.inl rfl) (pe_lst pa_nil))
    (pss_cons (ps_for PassesOwn.never rfl (pi_tupK K rfl (pe_tup (pa_cons (pv 0) (pa_cons (pv 1) pa_nil)))) (pg_name (i := 3) sc__law_sides.nd rfl (Or.inl rfl))
      (pss_one (ps_expr (pe_bm PySem.F.plainAttrs_list PySem.F.slot_list_append PySem.F.type_list_append mt_append (pv 2) (pa_cons (pe_lc (own := [("_law_text_here", 4)]) (tt := tYes) rfl sc__law_sides.nd (pi_tupK K rfl (pv 3)) (blkOk_by (N := ["_law_ones", "_law_others", "_law_sides_here", "_law_row", "_law_text_here", "_law_sign"]) (sc := defScope (topS 37)) (by decide +kernel)) (fun _ _ _ _ _ => by exact (pg_name (i := 4) sc__law_sides.nd rfl (Or.inl rfl))) (fun _ _ _ _ _ => by exact pts_nil) (fun _ _ _ _ _ => by exact (pe_tup (pa_cons (pe_callB (call_lenK K rfl) (by rfl) T.len (by decide +kernel) (pa_cons (pe_lc (own := [("_law_sign", 5)]) rfl sc__law_sides.nd (pi_str (pv 4)) (blkOk_eq (N := ["_law_ones", "_law_others", "_law_sides_here", "_law_row", "_law_text_here", "_law_sign"]) (sc := scIn__law_sides) rfl (by kernel_rfl) (by decide +kernel)) (fun _ _ _ _ _ => by exact (pg_name (i := 5) sc__law_sides.nd rfl (Or.inl rfl))) (fun _ _ _ _ _ => by exact (pts_one (pt_cmpR op_notIn_sign (pv 5) pe_str rfl))) (fun _ _ _ _ _ => by exact (pv 5))) pa_nil)) (pa_cons (C8.pe_c c__law_cores hr (by decide) (by rfl) (pa_cons (pv 4) pa_nil)) pa_nil))))) pa_nil)))))
    (pss_one (ps_ret (pv 2))))), ?_⟩
  obtain ⟨a, b, P, rfl, okp, ha, hb, q⟩ := h
  refine ⟨le_line (by simp), fun o ho => ?_⟩
  have A0 : Acc K S0 H o (upd H o (.lst [])) [] := acc_new (Kp.refl _ _) ho
  generalize upd H o (.lst []) = H1 at A0
  refine ⟨_, rfl, _, rfl, le_line (by simp), fun z hz => ?_⟩
  have A1 := acc_kp (le_S0 _) ho A0 (.new (o := .tup [a, b]) hz)
  have sz : (upd H1 z (.tup [a, b])) z = some (.tup [a, b]) := upd_same
  generalize upd H1 z (.tup [a, b]) = H2 at A1 sz
  clear A0 hz
  refine ⟨z, rfl, ⟨_, SqT.of sz⟩, for_tup (K := K) (a := z) (xs := [a, b]) (fun t σ H' => ∃ y3 y4 y5, σ = [some a, some b, some (.ref o), y3, y4, y5] ∧ H' z = some (.tup [a, b]) ∧ Acc K S0 H o H' (([rowD P.ones, rowD P.others]).take t)) ⟨none, none, none, rfl, sz, A1⟩ (fun t σ H' _ ⟨_, _, _, _, s, _⟩ => SqT.of s) ?_ ?_⟩
  · rintro t x σ H3 hx ⟨y3, y4, y5, rfl, s3, A3⟩
    have hrow : ∃ ts : List Tx, Dp K H x (txsD ts) ∧ ([rowD P.ones, rowD P.others])[t]? = some (rowD ts) ∧ (∀ t ∈ ts, okT t) ∧ ts.length ≤ 30 := by
      match t, hx with
      | 0, hx => cases hx; exact ⟨_, ha, rfl, okp.ones, okp.n1⟩
      | 1, hx => cases hx; exact ⟨_, hb, rfl, okp.others, okp.n2⟩
    obtain ⟨ts, hdx, hrt, hok, hn⟩ := hrow
    obtain ⟨ax, rfl, hsx⟩ := dp_seqS hdx
    have sH3 : Same H H3 := A3.1.same
    obtain ⟨acc, hacc, hda⟩ := id A3.2
    refine ⟨_, rfl, .inl ⟨rfl, _, SqL.of hacc⟩, _, rfl, ax, rfl, ⟨_, sqT_mono sH3 hsx⟩, fun D hD => lcT_map (K := K) (sqT_mono sH3 hsx) (ts.map cellD) (by rw [List.length_map, List.length_map]) hD (by rw [List.length_map]; exact lt_line (by omega)) ?_ ?_⟩
    · intro k y e H4 hy he s4 Q' q'
      obtain ⟨l, hl, rfl⟩ := map_at hy
      obtain ⟨l', hl', rfl⟩ := map_at he
      rw [hl] at hl'
      cases hl'
      have okl := hok l (List.mem_of_getElem? hl)
      have hsz := S_size l
      have hln := okl.1
      refine ⟨rfl, _, rfl, S l, rfl, fun D2 hD2 => lc_gen (K := K) (walk_str (z := S l)) S0 (fun _ => True) (fun i es => es = ((l.take i).filter fun c => !decide (c ∈ [32, 10])).map fun c => sD [c]) hD2 (lt_line (by omega)) (le_S0 _) trivial (fun _ _ _ => trivial) rfl (fun _ _ => trivial) ?_ ?_⟩
      · rintro i x H5 H' es hi k _ hr ⟨rfl, c, hci, rfl⟩ Q' Qn hq hqn
        have hli := S_at hci
        refine ⟨rfl, _, rfl, c, _, rfl, rfl, _, rfl, ?_⟩
        rw [b_codes]
        by_cases hb : c ∈ [32, 10]
        · have e : (!decide (c ∈ [32, 10])) = false := by rw [decide_eq_true hb]; rfl
          rw [e]
          refine hqn _ (Kp.refl _ _) trivial ?_
          rw [take_at hli, List.filter_append, hr, List.filter_cons, e]
          simp
        · have e : (!decide (c ∈ [32, 10])) = true := by rw [decide_eq_false hb]; rfl
          rw [e]
          refine ⟨_, rfl, hq _ _ (sD [c]) (Kp.refl _ _) trivial (.str _) ?_⟩
          rw [take_at hli, List.filter_append, hr, List.filter_cons, e]
          simp
      · intro H5 es k5 _ hr d
        rw [hsz, List.take_length] at hr
        obtain ⟨xs, hs, hxx⟩ := sq_lst d
        have hlen : xs.length = sizT l := by rw [dpa_len hxx, hr, List.length_map]; rfl
        refine ⟨D2, xs, rfl, .inl (sqL_mono (ex_same _ _) hs), _, rfl, l, rfl, okl, fun v6 H6 s6 d6 => ⟨le_line (by simp), fun z7 hz7 => ?_⟩⟩
        rw [hlen]
        have s46 := k5.same.trans s6
        exact q' _ _ (s46.trans (same_new hz7)) (.tup (nw_newT (s46.free hz7) upd_same) (.cons (.int _) (.cons (dp_up (dp_up d6 (nw_nw (same_dm k5.same))) (nw_ex (same_new hz7))) .nil)))
    · intro H4 s4 d4
      have ha4 := s4 _ _ hacc
      have ln := acc_len A3 hacc
      rw [List.length_take] at ln
      have hlt : t < 2 := at_lt hrt
      have A5 := acc_push (le_S0 _) ho A3 hacc (.of s4) (v := .ref D) (d := rowD ts) d4
      have hoz : o ≠ z := fun e => by
        rw [← e, hacc] at s3
        cases s3
      refine ⟨o, _, _, rfl, rfl, ha4, lt_line (by rw [ln]; omega), some (.ref ax), y4, y5, rfl, ?_, ?_⟩
      · rw [upd_ne (fun e => hoz e.symm)]; exact s4 _ _ s3
      · rw [take_at hrt]; exact A5
  · rintro σ H3 ⟨y3, y4, y5, rfl, s3, A3⟩
    exact ⟨_, rfl, q _ _ A3.1.same (acc_fin ho A3)⟩
end
end Tk
namespace Tk
open PySem PySem.Spec PyProof.Rows L2
open SX (S)

section
variable {P : Program} {w : World} {K : PySem.W.Frag} {mg : Str → Option Value} {base : Heap} {C SH : Addr}

theorem sc__law_link : FnScope ["_law_sides_here", "_law_link_here", "_law_known_here", "_law_prices_here", "_law_ones", "_law_others", "_law_many", "_law_one", "_law_other", "_law_left", "_law_unlike", "_law_place", "_law_size", "_law_cores_here"] ["_law_sides_here", "_law_link_here", "_law_known_here", "_law_prices_here"] (defScope (topS 38)) := ⟨rfl, rfl, rfl, by decide +kernel, rfl, by decide +kernel, by decide +kernel⟩
theorem bn__law_link : Bnd "_law_link" "_law_link" (topS 38) ["_law_sides_here", "_law_link_here", "_law_known_here", "_law_prices_here"] := fun _ _ _ _ _ _ us hl => match us, hl with | [_, _, _, _], _ => rfl
def CL (ts : List Tx) (ks : List Nat) : List PyData := ks.map fun k => cellD (ts.getD k [])
theorem cell_at {K : PySem.W.Frag} {H : Hp} {xs : List V} {ts : List Tx} {ks : List Nat} {i : Nat} {y : V} (hd : DpAll K H xs (CL ts ks)) (hy : xs[i]? = some y) :
    ∃ k b c, ks[i]? = some k ∧ y = .ref b ∧ SqT K H b [.int ((sizT (ts.getD k []) : Nat) : Int), .ref c] ∧ SqL K H c (strsW (cors (ts.getD k []))) := by
  obtain ⟨d, hd1, hdy⟩ := dpa_of hd hy
  unfold CL at hd1
  obtain ⟨k, hk, rfl⟩ := map_at hd1
  obtain ⟨b, u, v, rfl, hb, hu, hv⟩ := dp_pair hdy
  have eu := dp_int hu
  subst eu
  obtain ⟨c, zs, rfl, hc, hz⟩ := dp_lst hv
  refine ⟨k, b, c, hk, rfl, hb, ?_⟩
  have e : ((cors (ts.getD k [])).map sD) = ((cors (ts.getD k [])).map S).map PyData.str := by rw [List.map_map]; rfl
  have e2 : strsW (cors (ts.getD k [])) = ((cors (ts.getD k [])).map S).map V.str := by unfold strsW; rw [List.map_map]; rfl
  rw [e] at hz
  rw [e2, ← dpAll_strs hz]
  exact hc
theorem row_at {K : PySem.W.Frag} {H : Hp} {xs : List V} {ts : List Tx} {k : Nat} (hd : DpAll K H xs (ts.map cellD)) (hk : k < ts.length) : ∃ y, xs[k]? = some y ∧ Dp K H y (cellD (ts.getD k [])) := by
  refine dpa_get hd ?_
  rw [List.getElem?_map, List.getD_eq_getElem?_getD, List.getElem?_eq_getElem hk]
  rfl
theorem CL_len (ts : List Tx) (ks : List Nat) : (CL ts ks).length = ks.length := by unfold CL; rw [List.length_map]
theorem CL_take (ts : List Tx) {ks : List Nat} {i k : Nat} (h : ks[i]? = some k) : CL ts (ks.take (i + 1)) = CL ts (ks.take i) ++ [cellD (ts.getD k [])] := by
  unfold CL
  rw [take_at h, List.map_append]
  rfl
theorem any_stnd (ts : List Tx) (c : Tx) (ks : List Nat) : ((ks.map fun k => decide (c ∈ cors (ts.getD k []))).any id) = stnd ts c ks := by
  unfold stnd
  rw [List.any_map]
  rfl
theorem strs_flatW (ws : List Tx) : (strsW ws).all flatV = true := by
  rw [List.all_eq_true]
  intro x hx
  obtain ⟨l, _, rfl⟩ := List.mem_map.mp hx
  rfl
theorem inV_strsW (l : Tx) (ws : List Tx) : inV (.str (S l)) (strsW ws) = decide (l ∈ ws) := by
  rw [Bool.eq_iff_iff, decide_eq_true_eq]
  unfold inV strsW
  rw [List.any_eq_true]
  constructor
  · rintro ⟨x, hx, e⟩
    obtain ⟨w, hw, rfl⟩ := List.mem_map.mp hx
    have e2 : (S w == S l) = true := e
    have : w = l := SX.S_inj (eq_of_beq e2)
    rw [← this]; exact hw
  · intro h
    exact ⟨_, List.mem_map_of_mem h, by show (S l == S l) = true; exact beq_self_eq_true _⟩
theorem c__law_link (T : Txt K mg C SH) : C8.Cal P w K mg base 1 "_law_link" (sp__law_link K C) [] := by
  refine calD T.d__law_link bn__law_link sc__law_link (fun vs H Q E h => by obtain ⟨_, _, _, _, _, _, rfl, _⟩ := h; rfl) (fun f cdv A outer s H vs Q E hr h => ?_)
  refine ⟨_, (pss_cons (ps_setLc (i := 4) (own := [("_law_place", 11)]) (tt := tYes) rfl sc__law_link.nd rfl rfl (sw_true rfl rfl rfl (by decide +kernel)) (pi_tupK K rfl (pe_ix (ix_tupK K rfl) (pv 1) pe_int (fun _ _ => rfl))) (blkOk_by (N := ["_law_sides_here", "_law_link_here", "_law_known_here", "_law_prices_here", "_law_ones", "_law_others", "_law_many", "_law_one", "_law_other", "_law_left", "_law_unlike", "_law_place", "_law_size", "_law_cores_here"]) (sc := defScope (topS 38)) (by decide +kernel)) (fun _ _ _ _ _ => by exact (pg_name (i := 11) sc__law_link.nd rfl (Or.inl rfl))) (fun _ _ _ _ _ => by exact pts_nil) (fun _ _ _ _ _ => by exact (pe_ix (ix_listK K rfl) (pe_ix (ix_listK K rfl) (pv 0) pe_int (fun _ _ => rfl)) (pv 11) (fun _ _ => rfl))))
    (pss_cons (ps_setLc (i := 5) (own := [("_law_place", 11)]) (tt := tYes) rfl sc__law_link.nd rfl rfl (sw_true rfl rfl rfl (by decide +kernel)) (pi_tupK K rfl (pe_ix (ix_tupK K rfl) (pv 1) pe_int (fun _ _ => rfl))) (blkOk_by (N := ["_law_sides_here", "_law_link_here", "_law_known_here", "_law_prices_here", "_law_ones", "_law_others", "_law_many", "_law_one", "_law_other", "_law_left", "_law_unlike", "_law_place", "_law_size", "_law_cores_here"]) (sc := defScope (topS 38)) (by decide +kernel)) (fun _ _ _ _ _ => by exact (pg_name (i := 11) sc__law_link.nd rfl (Or.inl rfl))) (fun _ _ _ _ _ => by exact pts_nil) (fun _ _ _ _ _ => by exact (pe_ix (ix_listK K rfl) (pe_ix (ix_listK K rfl) (pv 0) pe_int (fun _ _ => rfl)) (pv 11) (fun _ _ => rfl))))
    (pss_cons (ps_if (PW.pt (pw_or (pt_cmpR op_eq (pe_callB (call_lenK K rfl) (by rfl) T.len (by decide +kernel) (pa_cons (pv 4) pa_nil)) pe_int (nomark _)) (pw_or1 (pt_cmpR op_eq (pe_callB (call_lenK K rfl) (by rfl) T.len (by decide +kernel) (pa_cons (pv 5) pa_nil)) pe_int (nomark _))))) (pss_one (ps_ret (pe_ix (ix_tupK K rfl) (pv 3) pe_int (fun _ _ => rfl)))) pss_nil)
    (pss_cons (ps_set (i := 6) sc__law_link.nd rfl (Or.inl rfl) pe_int)
    (pss_cons (ps_for PassesOwn.never rfl (pi_tupK K rfl (pv 2)) (pg_tupK K (n := 2) rfl rfl (pgs_cons (pg_name (i := 7) sc__law_link.nd rfl (Or.inr rfl)) (pgs_cons (pg_name (i := 8) sc__law_link.nd rfl (Or.inr rfl)) pgs_nil)))
      (pss_cons (ps_set (i := 9) sc__law_link.nd rfl (Or.inl rfl) (pe_callB (cr_anyK K rfl rfl) (by rfl) T.any (by decide +kernel) (pa_cons (pe_lc (own := [("_law_size", 12), ("_law_cores_here", 13)]) (tt := tYes) rfl sc__law_link.nd (pi_listK K rfl (pv 4)) (blkOk_by (N := ["_law_sides_here", "_law_link_here", "_law_known_here", "_law_prices_here", "_law_ones", "_law_others", "_law_many", "_law_one", "_law_other", "_law_left", "_law_unlike", "_law_place", "_law_size", "_law_cores_here"]) (sc := defScope (topS 38)) (by decide +kernel)) (fun _ _ _ _ _ => by exact (pg_tupK K (n := 2) rfl rfl (pgs_cons (pg_name (i := 12) sc__law_link.nd rfl (Or.inl rfl)) (pgs_cons (pg_name (i := 13) sc__law_link.nd rfl (Or.inl rfl)) pgs_nil)))) (fun _ _ _ _ _ => by exact pts_nil) (fun _ _ _ _ _ => by exact (pe_cmpR (op_inQK K rfl) (pv 7) (pv 13) (by rfl)))) pa_nil)))
      (pss_one (ps_if (PW.pt (pw_and (pt_val (pv 9)) (pw_and1 (pt_val (pe_callB (cr_anyK K rfl rfl) (by rfl) T.any (by decide +kernel) (pa_cons (pe_lc (own := [("_law_size", 12), ("_law_cores_here", 13)]) (tt := tYes) rfl sc__law_link.nd (pi_listK K rfl (pv 5)) (blkOk_by (N := ["_law_sides_here", "_law_link_here", "_law_known_here", "_law_prices_here", "_law_ones", "_law_others", "_law_many", "_law_one", "_law_other", "_law_left", "_law_unlike", "_law_place", "_law_size", "_law_cores_here"]) (sc := defScope (topS 38)) (by decide +kernel)) (fun _ _ _ _ _ => by exact (pg_tupK K (n := 2) rfl rfl (pgs_cons (pg_name (i := 12) sc__law_link.nd rfl (Or.inl rfl)) (pgs_cons (pg_name (i := 13) sc__law_link.nd rfl (Or.inl rfl)) pgs_nil)))) (fun _ _ _ _ _ => by exact pts_nil) (fun _ _ _ _ _ => by exact (pe_cmpR (op_inQK K rfl) (pv 8) (pv 13) (by rfl)))) pa_nil)))))) (pss_one (ps_set (i := 6) sc__law_link.nd rfl (Or.inl rfl) (pe_op op_add (pv 6) pe_int))) pss_nil))))
    (pss_cons (ps_set (i := 10) sc__law_link.nd rfl (Or.inl rfl) (pe_callB call_abs (by rfl) T.abs (by decide +kernel) (pa_cons (pe_op op_sub (pe_callB (cr_sumK K rfl rfl) (by rfl) T.sum (by decide +kernel) (pa_cons (pe_lc (own := [("_law_size", 12), ("_law_cores_here", 13)]) (tt := tYes) rfl sc__law_link.nd (pi_listK K rfl (pv 4)) (blkOk_by (N := ["_law_sides_here", "_law_link_here", "_law_known_here", "_law_prices_here", "_law_ones", "_law_others", "_law_many", "_law_one", "_law_other", "_law_left", "_law_unlike", "_law_place", "_law_size", "_law_cores_here"]) (sc := defScope (topS 38)) (by decide +kernel)) (fun _ _ _ _ _ => by exact (pg_tupK K (n := 2) rfl rfl (pgs_cons (pg_name (i := 12) sc__law_link.nd rfl (Or.inl rfl)) (pgs_cons (pg_name (i := 13) sc__law_link.nd rfl (Or.inl rfl)) pgs_nil)))) (fun _ _ _ _ _ => by exact pts_nil) (fun _ _ _ _ _ => by exact (pv 12))) pa_nil)) (pe_callB (cr_sumK K rfl rfl) (by rfl) T.sum (by decide +kernel) (pa_cons (pe_lc (own := [("_law_size", 12), ("_law_cores_here", 13)]) (tt := tYes) rfl sc__law_link.nd (pi_listK K rfl (pv 5)) (blkOk_by (N := ["_law_sides_here", "_law_link_here", "_law_known_here", "_law_prices_here", "_law_ones", "_law_others", "_law_many", "_law_one", "_law_other", "_law_left", "_law_unlike", "_law_place", "_law_size", "_law_cores_here"]) (sc := defScope (topS 38)) (by decide +kernel)) (fun _ _ _ _ _ => by exact (pg_tupK K (n := 2) rfl rfl (pgs_cons (pg_name (i := 12) sc__law_link.nd rfl (Or.inl rfl)) (pgs_cons (pg_name (i := 13) sc__law_link.nd rfl (Or.inl rfl)) pgs_nil)))) (fun _ _ _ _ _ => by exact pts_nil) (fun _ _ _ _ _ => by exact (pv 12))) pa_nil))) pa_nil)))
    (pss_one (ps_ret (pe_op op_sub (pe_op op_add (pe_op op_mul (pe_ix (ix_tupK K rfl) (pv 3) pe_int (fun _ _ => rfl)) (pe_op op_sub (pe_callB (call_max2 rfl) (by rfl) T.max (by decide +kernel) (pa_cons (pe_callB (call_lenK K rfl) (by rfl) T.len (by decide +kernel) (pa_cons (pv 4) pa_nil)) (pa_cons (pe_callB (call_lenK K rfl) (by rfl) T.len (by decide +kernel) (pa_cons (pv 5) pa_nil)) pa_nil))) pe_int)) (pe_op op_mul (pe_ix (ix_tupK K rfl) (pv 3) pe_int (fun _ _ => rfl)) (pv 10))) (pe_op op_mul (pe_ix (ix_tupK K rfl) (pv 3) pe_int (fun _ _ => rfl)) (pv 6))))))))))), ?_⟩
  obtain ⟨vs, vx, vk, vp, P, l, rfl, ⟨okp, hs, hk, hpr⟩, hx, okl, q⟩ := h
  obtain ⟨hl1, hl2, hl3, hl4⟩ := id okl
  obtain ⟨as, xs, rfl, hss, hds⟩ := dp_lst hs
  obtain ⟨u1, u2, rfl, hu1, hu2⟩ := dpA2 hds
  obtain ⟨au, xu, rfl, hsu, hdu⟩ := dp_lst hu1
  obtain ⟨av, xv, rfl, hsv, hdv⟩ := dp_lst hu2
  obtain ⟨ax, w1, w2, rfl, hsx, hw1, hw2⟩ := dp_pair hx
  obtain ⟨a1, z1, rfl, ha1, rfl⟩ := dp_seqN hw1
  obtain ⟨a2, z2, rfl, ha2, rfl⟩ := dp_seqN hw2
  obtain ⟨ak, xk, rfl, hsk, hdk⟩ := dp_tup hk
  have hkl : xk.length = P.known.length := by rw [dpa_len hdk, List.length_map]
  obtain ⟨ap, rfl, hsp⟩ := prs_tup hpr
  -- the left side's cells
  refine ⟨_, rfl, _, _, _, _, rfl, rfl, hsx, atI_nat (j := 0) rfl, a1, rfl, ⟨_, ha1⟩, fun D hD => lc_genT (K := K) (walk_tup (K := K) (a := a1) (xs := l.1.map fun (n : Nat) => V.int (n : Int))) S0 (fun i es => es = CL P.ones (l.1.take i)) hD (by rw [List.length_map]; exact lt_line (by omega)) (le_S0 _) rfl (fun H' s => sqT_mono s ha1) ?_ ?_⟩
  · rintro i y H1 H' es hi s1 rfl ⟨rfl, hy⟩ Q' Qn q' _
    obtain ⟨k, hk1, rfl⟩ := map_at hy
    obtain ⟨y, hyk, hyd⟩ := row_at hdu (hl3 k (List.mem_of_getElem? hk1))
    exact ⟨rfl, _, rfl, _, _, _, _, rfl, rfl, sqL_mono s1 hss, atI_nat (j := 0) rfl, _, rfl, _, _, _, _, rfl, rfl, sqL_mono s1 hsu, atI_nat hyk, q' y _ _ (Same.refl _) (.inr hyd) (CL_take _ hk1).symm⟩
  rintro H1 es s1 rfl d1
  rw [List.length_map, List.take_length] at d1
  have d1' : Dp K H1 (.ref D) (.list (CL P.ones l.1)) := d1
  clear d1
  have hsx1 := sqT_mono s1 hsx
  have ha21 := sqT_mono s1 ha2
  refine ⟨_, rfl, _, _, _, _, rfl, rfl, hsx1, atI_nat (j := 1) rfl, a2, rfl, ⟨_, ha21⟩, fun D2 hD2 => lc_genT (K := K) (walk_tup (K := K) (a := a2) (xs := l.2.map fun (n : Nat) => V.int (n : Int))) S0 (fun i es => es = CL P.others (l.2.take i)) hD2 (by rw [List.length_map]; exact lt_line (by omega)) (le_S0 _) rfl (fun H' s => sqT_mono s ha21) ?_ ?_⟩
  · rintro i y H2 H' es hi s2 rfl ⟨rfl, hy⟩ Q' Qn q' _
    obtain ⟨k, hk1, rfl⟩ := map_at hy
    obtain ⟨y, hyk, hyd⟩ := row_at hdv (hl4 k (List.mem_of_getElem? hk1))
    have s12 := s1.trans s2
    exact ⟨rfl, _, rfl, _, _, _, _, rfl, rfl, sqL_mono s12 hss, atI_nat (j := 1) rfl, _, rfl, _, _, _, _, rfl, rfl, sqL_mono s12 hsv, atI_nat hyk, q' y _ _ (Same.refl _) (.inr (dp_up hyd s1)) (CL_take _ hk1).symm⟩
  rintro H2 es s2 rfl d2
  rw [List.length_map, List.take_length] at d2
  have d2' : Dp K H2 (.ref D2) (.list (CL P.others l.2)) := d2
  clear d2
  have s12 := s1.trans s2
  obtain ⟨x1, hx1, hd1⟩ := sq_lst (dp_up d1' s2)
  obtain ⟨x2, hx2, hd2⟩ := sq_lst d2'
  have lx1 : x1.length = l.1.length := by rw [dpa_len hd1, CL_len]
  have lx2 : x2.length = l.2.length := by rw [dpa_len hd2, CL_len]
  unfold lkC at q
  unfold gName
  dsimp only
  refine or2_go (a := decide (V.int (l.1.length : Int) = V.int 0)) (b := decide (V.int (l.2.length : Int) = V.int 0)) (fun Q q => ⟨_, rfl, D, _, rfl, .inl hx1, rfl, _, rfl, by rw [lx1]; exact q⟩) (fun Q q => ⟨_, rfl, D2, _, rfl, .inl hx2, rfl, _, rfl, by rw [lx2]; exact q⟩) ?_
  by_cases h0 : l.1.length = 0 ∨ l.2.length = 0
  · have e : (decide (V.int (l.1.length : Int) = V.int 0) || decide (V.int (l.2.length : Int) = V.int 0)) = true := by
      rw [Bool.or_eq_true, decide_eq_true_eq, decide_eq_true_eq]
      rcases h0 with h0 | h0
      · exact .inl (by rw [h0]; rfl)
      · exact .inr (by rw [h0]; rfl)
    rw [e]
    rw [if_pos h0] at q
    exact iteT ⟨_, rfl, _, _, _, _, rfl, rfl, sqT_mono s12 hsp, atI_nat (j := 0) rfl, q _ s12⟩
  have e : (decide (V.int (l.1.length : Int) = V.int 0) || decide (V.int (l.2.length : Int) = V.int 0)) = false := by
    rw [Bool.or_eq_false_iff, decide_eq_false_iff_not, decide_eq_false_iff_not]
    exact ⟨fun z => h0 (.inl (by injection z with z; omega)), fun z => h0 (.inr (by injection z with z; omega))⟩
  rw [e]
  rw [if_neg h0] at q
  refine iteF ?_
  -- the pairs
  refine ⟨_, rfl, ak, rfl, ⟨_, sqT_mono s12 hsk⟩, for_tup (K := K) (a := ak) (xs := xk) (fun t σ H' => ∃ y7 y8 y9 y10 y11 y12 y13, σ = [some (.ref as), some (.ref ax), some (.ref ak), some (.ref ap), some (.ref D), some (.ref D2), some (.int ((((P.known.take t).filter fun q => stnd P.ones q.1 l.1 && stnd P.others q.2 l.2).length : Nat) : Int)), y7, y8, y9, y10, y11, y12, y13] ∧ Same H2 H') ⟨none, none, none, none, none, none, none, rfl, Same.refl _⟩ (fun t σ H' _ ⟨_, _, _, _, _, _, _, _, s⟩ => sqT_mono (s12.trans s) hsk) ?_ ?_⟩
  · rintro t x σ H3 hx ⟨y7, y8, y9, y10, y11, y12, y13, rfl, s3⟩
    obtain ⟨d, hd', hdx⟩ := dpa_of hdk hx
    obtain ⟨kq, hkq, rfl⟩ := map_at hd'
    obtain ⟨b, u, v, rfl, hb, hu, hv⟩ := dp_pair hdx
    have eu := dp_str hu
    have ev := dp_str hv
    subst eu ev
    have step : ∀ b : Bool, (stnd P.ones kq.1 l.1 && stnd P.others kq.2 l.2) = b → ((P.known.take (t + 1)).filter fun q => stnd P.ones q.1 l.1 && stnd P.others q.2 l.2).length = ((P.known.take t).filter fun q => stnd P.ones q.1 l.1 && stnd P.others q.2 l.2).length + (if b = true then 1 else 0) := by
      intro b hb
      rw [take_at hkq, List.filter_append, List.length_append, List.filter_cons, hb]
      cases b <;> rfl
    refine ⟨b, _, rfl, sqT_mono (s12.trans s3) hb, rfl, _, _, rfl, _, _, rfl, rfl, ?_⟩
    have hx13 := sqL_mono s3 hx1
    refine ⟨_, rfl, D, rfl, ⟨_, hx13⟩, fun Z hZ => lcL_map (K := K) hx13 ((l.1.map fun k => decide (kq.1 ∈ cors (P.ones.getD k []))).map .bool) (by rw [List.length_map, List.length_map, lx1]) hZ (lt_line (by omega)) ?_ ?_⟩
    · intro i y e H4 hy he s4 Q' q'
      obtain ⟨k, cb, cc, hki, rfl, hcb, hcc⟩ := cell_at hd1 hy
      obtain ⟨z1, hz1, rfl⟩ := map_at he
      obtain ⟨k', hk', rfl⟩ := map_at hz1
      rw [hki] at hk'
      cases hk'
      have s34 := s3.trans s4
      refine ⟨cb, _, rfl, sqT_mono s34 hcb, rfl, _, _, rfl, _, _, rfl, rfl, rfl, _, rfl, _, rfl, cc, _, rfl, .inl (sqL_mono s34 hcc), rfl, strs_flatW _, ?_⟩
      rw [if_neg Bool.false_ne_true, inV_strsW]
      exact q' _ _ (Same.refl _) (.bl _)
    intro H4 s4 d4
    refine ⟨Z, _, rfl, sqL_ofB d4, ?_⟩
    rw [any_stnd]
    refine ⟨_, rfl, _, rfl, ?_⟩
    have s34 := s3.trans s4
    cases hb1 : stnd P.ones kq.1 l.1 with
    | false =>
      refine iteF (iteF ⟨some (.str (S kq.1)), some (.str (S kq.2)), some (.bl false), y10, y11, y12, y13, ?_, s34⟩)
      rw [step false (by rw [hb1]; rfl)]
      rfl
    | true =>
      have hx24 := sqL_mono s34 hx2
      refine iteT ⟨_, rfl, D2, rfl, ⟨_, hx24⟩, fun Z2 hZ2 => lcL_map (K := K) hx24 ((l.2.map fun k => decide (kq.2 ∈ cors (P.others.getD k []))).map .bool) (by rw [List.length_map, List.length_map, lx2]) hZ2 (lt_line (by omega)) ?_ ?_⟩
      · intro i y e H5 hy he s5 Q' q'
        obtain ⟨k, cb, cc, hki, rfl, hcb, hcc⟩ := cell_at hd2 hy
        obtain ⟨z1, hz1, rfl⟩ := map_at he
        obtain ⟨k', hk', rfl⟩ := map_at hz1
        rw [hki] at hk'
        cases hk'
        have s35 := s34.trans s5
        refine ⟨cb, _, rfl, sqT_mono s35 hcb, rfl, _, _, rfl, _, _, rfl, rfl, rfl, _, rfl, _, rfl, cc, _, rfl, .inl (sqL_mono s35 hcc), rfl, strs_flatW _, ?_⟩
        rw [if_neg Bool.false_ne_true, inV_strsW]
        exact q' _ _ (Same.refl _) (.bl _)
      intro H5 s5 d5
      refine ⟨Z2, _, rfl, sqL_ofB d5, ?_⟩
      rw [any_stnd]
      have s35 := s34.trans s5
      refine ⟨_, rfl, ?_⟩
      cases hb2 : stnd P.others kq.2 l.2 with
      | false =>
        refine iteF ⟨some (.str (S kq.1)), some (.str (S kq.2)), some (.bl true), y10, y11, y12, y13, ?_, s35⟩
        rw [step false (by rw [hb1, hb2]; rfl)]
        rfl
      | true =>
        refine iteT ⟨_, rfl, _, _, rfl, rfl, some (.str (S kq.1)), some (.str (S kq.2)), some (.bl true), y10, y11, y12, y13, ?_, s35⟩
        rw [step true (by rw [hb1, hb2]; rfl)]
        rfl
  · rintro σ H3 ⟨y7, y8, y9, y10, y11, y12, y13, rfl, s3⟩
    rw [hkl, List.take_length]
    have hx13 := sqL_mono s3 hx1
    refine ⟨_, rfl, D, rfl, ⟨_, hx13⟩, fun Z hZ => lcL_map (K := K) hx13 ((l.1.map fun k => ((sizT (P.ones.getD k []) : Nat) : Int)).map .int) (by rw [List.length_map, List.length_map, lx1]) hZ (lt_line (by omega)) ?_ ?_⟩
    · intro i y e H4 hy he s4 Q' q'
      obtain ⟨k, cb, cc, hki, rfl, hcb, hcc⟩ := cell_at hd1 hy
      obtain ⟨z1, hz1, rfl⟩ := map_at he
      obtain ⟨k', hk', rfl⟩ := map_at hz1
      rw [hki] at hk'
      cases hk'
      exact ⟨cb, _, rfl, sqT_mono (s3.trans s4) hcb, rfl, _, _, rfl, _, _, rfl, rfl, rfl, _, rfl, q' _ _ (Same.refl _) (.int _)⟩
    intro H4 s4 d4
    have s34 := s3.trans s4
    have hx24 := sqL_mono s34 hx2
    refine ⟨Z, _, rfl, sqL_of d4, _, rfl, D2, rfl, ⟨_, hx24⟩, fun Z2 hZ2 => lcL_map (K := K) hx24 ((l.2.map fun k => ((sizT (P.others.getD k []) : Nat) : Int)).map .int) (by rw [List.length_map, List.length_map, lx2]) hZ2 (lt_line (by omega)) ?_ ?_⟩
    · intro i y e H5 hy he s5 Q' q'
      obtain ⟨k, cb, cc, hki, rfl, hcb, hcc⟩ := cell_at hd2 hy
      obtain ⟨z1, hz1, rfl⟩ := map_at he
      obtain ⟨k', hk', rfl⟩ := map_at hz1
      rw [hki] at hk'
      cases hk'
      exact ⟨cb, _, rfl, sqT_mono (s34.trans s5) hcb, rfl, _, _, rfl, _, _, rfl, rfl, rfl, _, rfl, q' _ _ (Same.refl _) (.int _)⟩
    intro H5 s5 d5
    have s35 := s34.trans s5
    have s05 := s12.trans s35
    have hp5 := sqT_mono s05 hsp
    refine ⟨Z2, _, rfl, sqL_of d5, _, _, rfl, rfl, _, rfl, ?_⟩
    refine ⟨_, rfl, _, _, _, _, rfl, rfl, hp5, atI_nat (j := 1) rfl, _, rfl, D, _, rfl, .inl (sqL_mono s35 hx1), _, rfl, D2, _, rfl, .inl (sqL_mono s35 hx2), _, _, rfl, ?_⟩
    rw [lx1, lx2]
    refine ⟨_, _, rfl, rfl, _, _, rfl, rfl, sml_mul okp.p2, _, rfl, _, _, _, _, rfl, rfl, hp5, atI_nat (j := 3) rfl, _, rfl, _, _, rfl, rfl, sml_mul okp.p4, _, _, rfl, rfl, _, rfl, _, _, _, _, rfl, rfl, hp5, atI_nat (j := 4) rfl, _, rfl, _, _, rfl, rfl, sml_mul okp.p5, _, _, rfl, rfl, ?_⟩
    exact q H5 s05
end
end Tk
namespace Tk
open PySem PySem.Spec PyProof.Rows L2
open SX (S)

section
variable {P : Program} {w : World} {K : PySem.W.Frag} {mg : Str → Option Value} {base : Heap} {C SH : Addr}

theorem sc__law_step : FnScope ["_law_sides_here", "_law_step_here", "_law_known_here", "_law_prices_here", "_law_cost", "_law_link_here"] ["_law_sides_here", "_law_step_here", "_law_known_here", "_law_prices_here"] (defScope (topS 39)) := ⟨rfl, rfl, rfl, by decide +kernel, rfl, by decide +kernel, by decide +kernel⟩
theorem bn__law_step : Bnd "_law_step" "_law_step" (topS 39) ["_law_sides_here", "_law_step_here", "_law_known_here", "_law_prices_here"] := fun _ _ _ _ _ _ us hl => match us, hl with | [_, _, _, _], _ => rfl

theorem c__law_step (T : Txt K mg C SH) : C8.Cal P w K mg base 2 "_law_step" (sp__law_step K C) [] := by
  have c__law_link : C8.Cal P w K mg base 1 "_law_link" (sp__law_link K C) [] := Tk.c__law_link T
  refine calD T.d__law_step bn__law_step sc__law_step (fun vs H Q E h => by obtain ⟨_, _, _, _, _, _, rfl, _⟩ := h; rfl) (fun f cdv A outer s H vs Q E hr h => ?_)
  refine ⟨_, (pss_cons (ps_set (i := 4) sc__law_step.nd rfl (Or.inl rfl) (pe_callB (cr_sumK K rfl rfl) (by rfl) T.sum (by decide +kernel) (pa_cons (pe_lc (own := [("_law_link_here", 5)]) (tt := tYes) rfl sc__law_step.nd (pi_tupK K rfl (pv 1)) (blkOk_by (N := ["_law_sides_here", "_law_step_here", "_law_known_here", "_law_prices_here", "_law_cost", "_law_link_here"]) (sc := defScope (topS 39)) (by decide +kernel)) (fun _ _ _ _ _ => by exact (pg_name (i := 5) sc__law_step.nd rfl (Or.inl rfl))) (fun _ _ _ _ _ => by exact pts_nil) (fun _ _ _ _ _ => by exact (C8.pe_c c__law_link hr (by decide) (by rfl) (pa_cons (pv 0) (pa_cons (pv 5) (pa_cons (pv 2) (pa_cons (pv 3) pa_nil))))))) pa_nil)))
    (pss_one (ps_ret (pe_op op_add (pv 4) (pe_op op_mul (pe_ix (ix_tupK K rfl) (pv 3) pe_int (fun _ _ => rfl)) (pe_op op_sub (pe_callB (call_lenK K rfl) (by rfl) T.len (by decide +kernel) (pa_cons (pv 1) pa_nil)) pe_int)))))), ?_⟩
  obtain ⟨vs, vx, vk, vp, P, st, rfl, lc, hx, ⟨hs1, hs2⟩, hs0, q⟩ := h
  obtain ⟨ap, rfl, hpr⟩ := prs_tup lc.2.2.2
  obtain ⟨ax, xs, rfl, hxs, hds⟩ := dp_tup hx
  have hxl : xs.length = st.length := by rw [dpa_len hds, List.length_map]
  refine ⟨_, rfl, ax, rfl, ⟨_, hxs⟩, fun D hD => lcT_map (K := K) hxs (st.map fun l => PyData.int (lkC P l)) (by rw [List.length_map, hxl]) hD (by rw [hxl]; exact lt_line (by omega)) ?_ ?_⟩
  · intro i w e H2 hw he s2 Q' q'
    obtain ⟨d, hd1, hdw⟩ := dpa_of hds hw
    obtain ⟨l, hl, rfl⟩ := map_at hd1
    obtain ⟨l', hl', rfl⟩ := map_at he
    rw [hl] at hl'
    cases hl'
    exact ⟨rfl, _, rfl, _, rfl, _, rfl, _, rfl, vs, w, vk, .ref ap, P, l, rfl, lawC_mono s2 lc, dp_up hdw s2, hs2 l (List.mem_of_getElem? hl), fun H3 s3 => q' _ _ s3 (.int _)⟩
  intro H2 s2 d2
  refine ⟨D, st.map (lkC P), rfl, sqL_of (by rw [List.map_map]; exact d2), ?_⟩
  refine ⟨_, rfl, _, rfl, _, _, _, _, rfl, rfl, sqT_mono s2 hpr, atI_nat (j := 2) rfl, _, rfl, ax, _, rfl, .inr (sqT_mono s2 hxs), _, _, rfl, rfl, _, _, rfl, rfl, sml_mul lc.1.p3, _, _, rfl, rfl, ?_⟩
  unfold stC at q
  rw [hxl]
  have e : P.cross * ((st.length : Int) - 1) = (if st.length = 2 then P.cross else 0) := by
    by_cases h2 : st.length = 2
    · rw [if_pos h2, h2]
      show P.cross * 1 = P.cross
      exact Int.mul_one _
    · rw [if_neg h2, show ((st.length : Int) - 1) = 0 by omega, Int.mul_zero]
  rw [e]
  exact q H2 s2
end
end Tk
namespace Tk
open PySem PySem.Spec PyProof.Rows L2
open SX (S)

section
variable {P : Program} {w : World} {K : PySem.W.Frag} {mg : Str → Option Value} {base : Heap} {C SH : Addr}

theorem sc__law_steps : FnScope ["_law_i", "_law_j", "_law_m", "_law_n", "_law_steps_here", "_law_a", "_law_b"] ["_law_i", "_law_j", "_law_m", "_law_n"] (defScope (topS 40)) := ⟨rfl, rfl, rfl, by decide +kernel, rfl, by decide +kernel, by decide +kernel⟩
theorem bn__law_steps : Bnd "_law_steps" "_law_steps" (topS 40) ["_law_i", "_law_j", "_law_m", "_law_n"] := fun _ _ _ _ _ _ us hl => match us, hl with | [_, _, _, _], _ => rfl
theorem int_eq {a b : Int} : decide (V.int a = V.int b) = decide (a = b) := decide_eq_decide.mpr ⟨fun e => by injection e, fun e => by rw [e]⟩
theorem c__law_steps (T : Txt K mg C SH) : C8.Cal P w K mg base 1 "_law_steps" (sp__law_steps K C) [] := by
  refine calD T.d__law_steps bn__law_steps sc__law_steps (fun vs H Q E h => by obtain ⟨_, _, _, _, rfl, _⟩ := h; rfl) (fun f cdv A outer s H vs Q E hr h => ?_)
  refine ⟨_, (pss_cons (ps_set (i := 4) sc__law_steps.nd rfl (Or.inl rfl) (pe_lst pa_nil))
    (pss_cons (ps_for PassesOwn.never rfl (pi_range1 (by rfl) T.range (pa_cons pe_int pa_nil)) (pg_name (i := 5) sc__law_steps.nd rfl (Or.inl rfl))
      (pss_one (ps_for PassesOwn.never rfl (pi_range1 (by rfl) T.range (pa_cons pe_int pa_nil)) (pg_name (i := 6) sc__law_steps.nd rfl (Or.inl rfl))
        (pss_one (ps_if (PW.pt (pw_and (pt_cmpR op_le (pe_op op_add (pv 0) (pv 5)) (pv 2) (nomark _)) (pw_and (pt_cmpR op_le (pe_op op_add (pv 1) (pv 6)) (pv 3) (nomark _)) (pw_and1 (PW.pt (pw_or (pt_cmpR op_eq (pe_op op_add (pv 5) (pv 6)) pe_int (nomark _)) (pw_or1 (pt_cmpR op_eq (pe_callB (call_min2 rfl) (by rfl) T.min (by decide +kernel) (pa_cons (pv 5) (pa_cons (pv 6) pa_nil))) pe_int (nomark _))))))))) (pss_one (ps_expr (pe_bm PySem.F.plainAttrs_list PySem.F.slot_list_append PySem.F.type_list_append mt_append (pv 4) (pa_cons (pe_tup (pa_cons (pe_tup (pa_cons (pe_tupRg rfl (by rfl) T.tuple (prg_2 (by rfl) T.range (pv 0) (pe_op op_add (pv 0) (pv 5)))) (pa_cons (pe_tupRg rfl (by rfl) T.tuple (prg_2 (by rfl) T.range (pv 1) (pe_op op_add (pv 1) (pv 6)))) pa_nil))) pa_nil)) pa_nil)))) pss_nil)))))
    (pss_cons (ps_if (PW.pt (pw_and (pt_cmpR op_le (pe_op op_add (pv 0) pe_int) (pv 2) (nomark _)) (pw_and1 (pt_cmpR op_le (pe_op op_add (pv 1) pe_int) (pv 3) (nomark _))))) (pss_one (ps_expr (pe_bm PySem.F.plainAttrs_list PySem.F.slot_list_append PySem.F.type_list_append mt_append (pv 4) (pa_cons (pe_tup (pa_cons (pe_tup (pa_cons (pe_tup (pa_cons (pv 0) pa_nil)) (pa_cons (pe_tup (pa_cons (pe_op op_add (pv 1) pe_int) pa_nil)) pa_nil))) (pa_cons (pe_tup (pa_cons (pe_tup (pa_cons (pe_op op_add (pv 0) pe_int) pa_nil)) (pa_cons (pe_tup (pa_cons (pv 1) pa_nil)) pa_nil))) pa_nil))) pa_nil)))) pss_nil)
    (pss_one (ps_ret (pv 4)))))), ?_⟩
  obtain ⟨i, j, m, n, rfl, him, hjn, hm, hn, q⟩ := h
  refine ⟨le_line (by simp), fun o ho => ?_⟩
  have A0 : Acc K S0 H o (upd H o (.lst [])) [] := acc_new (Kp.refl _ _) ho
  have lnA : ∀ {H' : Hp} {es : List Stp} {acc : List V}, Acc K S0 H o H' (es.map stD) → es.length ≤ 100 → H' o = some (.lst acc) → acc.length < sizeLine := by
    intro H' es acc A l ha
    have := acc_len A ha
    rw [List.length_map] at this
    exact lt_line (by omega)
  generalize upd H o (.lst []) = H1 at A0
  refine ⟨_, rfl, by decide, by decide, for_range (fun a σ H' => ∃ y5 y6, σ = [some (.int (i : Int)), some (.int (j : Int)), some (.int (m : Int)), some (.int (n : Int)), some (.ref o), y5, y6] ∧ Acc K S0 H o H' ((lpart i j m n a).map stD)) ⟨none, none, rfl, A0⟩ ?_ ?_⟩
  · rintro a σ H2 ha4 ⟨y5, y6, rfl, A2⟩
    have ha3 : a < 4 := ha4
    rw [Int.zero_add]
    refine ⟨_, rfl, by decide, by decide, for_range (fun b σ H' => ∃ y6, σ = [some (.int (i : Int)), some (.int (j : Int)), some (.int (m : Int)), some (.int (n : Int)), some (.ref o), some (.int (a : Int)), y6] ∧ Acc K S0 H o H' ((lpart i j m n a ++ lrow i j m n a b).map stD)) ⟨y6, rfl, by unfold lrow; simpa using A2⟩ ?_ ?_⟩
    · clear A2
      rintro b σ H3 hb4 ⟨y6, rfl, A3⟩
      have hb3 : b < 4 := hb4
      rw [Int.zero_add]
      have eR : lrow i j m n a (b + 1) = lrow i j m n a b ++ lcell i j m n a b := by
        unfold lrow
        rw [List.range_succ, List.flatMap_append]
        simp
      have hln : (lpart i j m n a ++ lrow i j m n a b).length ≤ 100 := by
        rw [List.length_append]
        have := lpart_len i j m n a
        have := lrow_len i j m n a b
        omega
      refine and2_go (a := decide ((i : Int) + (a : Int) ≤ (m : Int))) (b := decide ((j : Int) + (b : Int) ≤ (n : Int)) && (decide ((a : Int) + (b : Int) = 1) || decide ((if (b : Int) < (a : Int) then (b : Int) else (a : Int)) = 1))) (fun Q q => ⟨_, rfl, _, rfl, _, _, rfl, rfl, _, rfl, _, _, rfl, rfl, _, rfl, q⟩)
        (fun Q q => and2_go (a := decide ((j : Int) + (b : Int) ≤ (n : Int))) (b := (decide ((a : Int) + (b : Int) = 1) || decide ((if (b : Int) < (a : Int) then (b : Int) else (a : Int)) = 1))) (fun Q q => ⟨_, rfl, _, rfl, _, _, rfl, rfl, _, rfl, _, _, rfl, rfl, _, rfl, q⟩)
          (fun Q q => or2_go (a := decide ((a : Int) + (b : Int) = 1)) (b := decide ((if (b : Int) < (a : Int) then (b : Int) else (a : Int)) = 1)) (fun Q q => ⟨_, rfl, _, rfl, _, _, rfl, rfl, rfl, _, rfl, by rw [int_eq]; exact q⟩) (fun Q q => ⟨_, rfl, _, rfl, _, _, rfl, rfl, _, rfl, by rw [int_eq]; exact q⟩) q) q) ?_
      by_cases hc : (i + a ≤ m ∧ j + b ≤ n) ∧ (a + b = 1 ∨ min a b = 1)
      · have et : (decide ((i : Int) + (a : Int) ≤ (m : Int)) && (decide ((j : Int) + (b : Int) ≤ (n : Int)) && (decide ((a : Int) + (b : Int) = 1) || decide ((if (b : Int) < (a : Int) then (b : Int) else (a : Int)) = 1)))) = true := by
          rw [Bool.and_eq_true, Bool.and_eq_true, Bool.or_eq_true, decide_eq_true_eq, decide_eq_true_eq, decide_eq_true_eq, decide_eq_true_eq]
          refine ⟨by omega, by omega, ?_⟩
          rcases hc.2 with h | h
          · exact .inl (by omega)
          · refine .inr ?_
            split <;> omega
        rw [et]
        obtain ⟨acc, ha, hd⟩ := id A3.2
        refine iteT ⟨_, rfl, .inl ⟨rfl, _, SqL.of ha⟩, _, rfl, _, rfl, _, rfl, _, _, rfl, rfl, _, _, rfl, rfl, rgOk_N (by omega) (by omega), fun p1 h1 => ⟨_, rfl, _, rfl, _, rfl, _, _, rfl, rfl, _, _, rfl, rfl, rgOk_N (by omega) (by omega), fun p2 h2 => ⟨le_line (by simp), fun p3 h3 => ⟨le_line (by simp), fun p4 h4 => ?_⟩⟩⟩⟩
        obtain ⟨hb, A1⟩ := acc_s1 ho A3 ha ((List.range a).map (i + ·)) ((List.range b).map (j + ·)) (rgV_N i a) (rgV_N j b) h1 h2 h3 h4
        refine ⟨o, _, _, rfl, rfl, hb, lnA A3 hln ha, _, rfl, acc_go A1 ?_⟩
        rw [eR]
        unfold lcell
        rw [if_pos hc, ← List.append_assoc, List.map_append (l₁ := lpart i j m n a ++ lrow i j m n a b)]
        rfl
      · have et : (decide ((i : Int) + (a : Int) ≤ (m : Int)) && (decide ((j : Int) + (b : Int) ≤ (n : Int)) && (decide ((a : Int) + (b : Int) = 1) || decide ((if (b : Int) < (a : Int) then (b : Int) else (a : Int)) = 1)))) = false := by
          rw [Bool.eq_false_iff]
          intro z
          rw [Bool.and_eq_true, Bool.and_eq_true, Bool.or_eq_true, decide_eq_true_eq, decide_eq_true_eq, decide_eq_true_eq, decide_eq_true_eq] at z
          obtain ⟨z1, z2, z3⟩ := z
          refine hc ⟨by omega, ?_⟩
          rcases z3 with h | h
          · exact .inl (by omega)
          · refine .inr ?_
            split at h <;> omega
        rw [et]
        refine iteF ⟨_, rfl, acc_go A3 ?_⟩
        rw [eR]
        unfold lcell
        rw [if_neg hc, List.append_nil]
    · rintro σ H3 ⟨y6, rfl, A3⟩
      refine ⟨_, _, rfl, acc_go A3 ?_⟩
      have eL : lpart i j m n (a + 1) = lpart i j m n a ++ lrow i j m n a 4 := by
        unfold lpart
        rw [List.range_succ, List.flatMap_append]
        simp
      rw [eL]
      rfl
  · rintro σ H' ⟨y5, y6, rfl, A⟩
    have fin : ∀ H4, Acc K S0 H o H4 ((lstP i j m n).map stD) → Q (.ref o) H4 := fun H4 A4 => q _ _ A4.1.same (acc_fin ho A4)
    have A' : Acc K S0 H o H' ((lpart i j m n 4).map stD) := A
    have hln : (lpart i j m n 4).length ≤ 100 := Nat.le_trans (lpart_len i j m n 4) (by decide)
    clear A
    dsimp only
    refine and2_go (a := decide ((i : Int) + 2 ≤ (m : Int))) (b := decide ((j : Int) + 2 ≤ (n : Int))) (fun Q q => ⟨_, rfl, _, _, rfl, rfl, _, rfl, _, _, rfl, rfl, _, rfl, q⟩) (fun Q q => ⟨_, rfl, _, _, rfl, rfl, _, rfl, _, _, rfl, rfl, _, rfl, q⟩) ?_
    by_cases hc : i + 2 ≤ m ∧ j + 2 ≤ n
    · rw [show (decide ((i : Int) + 2 ≤ (m : Int)) && decide ((j : Int) + 2 ≤ (n : Int))) = true from by rw [Bool.and_eq_true, decide_eq_true_eq, decide_eq_true_eq]; omega]
      obtain ⟨acc, ha, hd⟩ := id A'.2
      refine iteT ⟨_, rfl, .inl ⟨rfl, _, SqL.of ha⟩, _, rfl, le_line (by simp), fun p1 h1 => ⟨_, rfl, _, _, rfl, rfl, le_line (by simp), fun p2 h2 => ⟨le_line (by simp), fun p3 h3 => ⟨_, rfl, _, _, rfl, rfl, le_line (by simp), fun p4 h4 => ⟨_, rfl, le_line (by simp), fun p5 h5 => ⟨le_line (by simp), fun p6 h6 => ⟨le_line (by simp), fun p7 h7 => ?_⟩⟩⟩⟩⟩⟩⟩
      obtain ⟨hb, A1⟩ := acc_s2 ho A' ha [i] [j + 1] [i + 1] [j] rfl rfl h1 h2 h3 h4 h5 h6 h7
      refine ⟨o, _, _, rfl, rfl, hb, lnA A' hln ha, _, rfl, fin _ (acc_go A1 ?_)⟩
      unfold lstP
      rw [if_pos hc, List.map_append]
      rfl
    · rw [show (decide ((i : Int) + 2 ≤ (m : Int)) && decide ((j : Int) + 2 ≤ (n : Int))) = false from by rw [Bool.and_eq_false_iff, decide_eq_false_iff_not, decide_eq_false_iff_not]; omega]
      refine iteF ⟨_, rfl, fin _ (acc_go A' ?_)⟩
      unfold lstP
      rw [if_neg hc, List.append_nil]
end
end Tk
namespace Tk
open PySem PySem.Spec PyProof.Rows L2
open SX (S)

section
variable {P : Program} {w : World} {K : PySem.W.Frag} {mg : Str → Option Value} {base : Heap} {C SH : Addr}

theorem sc__law_on : FnScope ["_law_step_here", "_law_i", "_law_j", "_law_ones", "_law_others"] ["_law_step_here", "_law_i", "_law_j"] (defScope (topS 41)) := ⟨rfl, rfl, rfl, by decide +kernel, rfl, by decide +kernel, by decide +kernel⟩
theorem bn__law_on : Bnd "_law_on" "_law_on" (topS 41) ["_law_step_here", "_law_i", "_law_j"] := fun _ _ _ _ _ _ us hl => match us, hl with | [_, _, _], _ => rfl
theorem sum_nat (l : List Nat) : ((l.map fun (n : Nat) => (n : Int))).sum = ((l.sum : Nat) : Int) := by
  induction l with
  | nil => rfl
  | cons a l ih => rw [List.map_cons, List.sum_cons, List.sum_cons, ih, Int.natCast_add]
theorem c__law_on (T : Txt K mg C SH) : C8.Cal P w K mg base 1 "_law_on" (sp__law_on K C) [] := by
  refine calD T.d__law_on bn__law_on sc__law_on (fun vs H Q E h => by obtain ⟨_, _, _, _, rfl, _⟩ := h; rfl) (fun f cdv A outer s H vs Q E hr h => ?_)
  refine ⟨_, (pss_one (ps_ret (pe_tup (pa_cons (pe_op op_add (pv 1) (pe_callB (cr_sumK K rfl rfl) (by rfl) T.sum (by decide +kernel) (pa_cons (pe_lc (own := [("_law_ones", 3), ("_law_others", 4)]) (tt := tYes) rfl sc__law_on.nd (pi_tupK K rfl (pv 0)) (blkOk_by (N := ["_law_step_here", "_law_i", "_law_j", "_law_ones", "_law_others"]) (sc := defScope (topS 41)) (by decide +kernel)) (fun _ _ _ _ _ => by exact (pg_tupK K (n := 2) rfl rfl (pgs_cons (pg_name (i := 3) sc__law_on.nd rfl (Or.inl rfl)) (pgs_cons (pg_name (i := 4) sc__law_on.nd rfl (Or.inl rfl)) pgs_nil)))) (fun _ _ _ _ _ => by exact pts_nil) (fun _ _ _ _ _ => by exact (pe_callB (call_lenK K rfl) (by rfl) T.len (by decide +kernel) (pa_cons (pv 3) pa_nil)))) pa_nil))) (pa_cons (pe_op op_add (pv 2) (pe_callB (cr_sumK K rfl rfl) (by rfl) T.sum (by decide +kernel) (pa_cons (pe_lc (own := [("_law_ones", 3), ("_law_others", 4)]) (tt := tYes) rfl sc__law_on.nd (pi_tupK K rfl (pv 0)) (blkOk_by (N := ["_law_step_here", "_law_i", "_law_j", "_law_ones", "_law_others"]) (sc := defScope (topS 41)) (by decide +kernel)) (fun _ _ _ _ _ => by exact (pg_tupK K (n := 2) rfl rfl (pgs_cons (pg_name (i := 3) sc__law_on.nd rfl (Or.inl rfl)) (pgs_cons (pg_name (i := 4) sc__law_on.nd rfl (Or.inl rfl)) pgs_nil)))) (fun _ _ _ _ _ => by exact pts_nil) (fun _ _ _ _ _ => by exact (pe_callB (call_lenK K rfl) (by rfl) T.len (by decide +kernel) (pa_cons (pv 4) pa_nil)))) pa_nil))) pa_nil))))), ?_⟩
  obtain ⟨v, st, i, j, rfl, hd, hlen, q⟩ := h
  obtain ⟨a, xs, rfl, hs, hds⟩ := dp_tup hd
  have hxl : xs.length = st.length := by rw [dpa_len hds, List.length_map]
  refine ⟨_, rfl, _, rfl, a, rfl, ⟨_, hs⟩, fun D hD => lcT_map (K := K) hs (((st.map fun l => l.1.length).map fun (n : Nat) => (n : Int)).map .int) (by rw [List.length_map, List.length_map, List.length_map, hxl]) hD (lt_line (by omega)) ?_ ?_⟩
  · intro t x e H2 hx he s2 Q' q'
    obtain ⟨d, hd1, hdx⟩ := dpa_of hds hx
    obtain ⟨l, hl, rfl⟩ := map_at hd1
    obtain ⟨z1, hz1, rfl⟩ := map_at he
    obtain ⟨z2, hz2, rfl⟩ := map_at hz1
    obtain ⟨l', hl', rfl⟩ := map_at hz2
    rw [hl] at hl'
    cases hl'
    obtain ⟨b, u, v, rfl, hb, hu, hv⟩ := dp_pair hdx
    obtain ⟨c1, z1, rfl, hc1, rfl⟩ := dp_seqN hu
    refine ⟨b, _, rfl, sqT_mono s2 hb, rfl, _, _, rfl, _, _, rfl, rfl, rfl, _, rfl, c1, _, rfl, .inr (sqT_mono s2 hc1), ?_⟩
    rw [List.length_map]
    exact q' _ _ (Same.refl _) (.int _)
  intro H2 s2 d2
  refine ⟨D, _, rfl, sqL_of d2, _, _, rfl, rfl, ?_⟩
  have hs2 := sqT_mono s2 hs
  refine ⟨_, rfl, _, rfl, a, rfl, ⟨_, hs2⟩, fun D2 hD2 => lcT_map (K := K) hs2 (((st.map fun l => l.2.length).map fun (n : Nat) => (n : Int)).map .int) (by rw [List.length_map, List.length_map, List.length_map, hxl]) hD2 (lt_line (by omega)) ?_ ?_⟩
  · intro t x e H3 hx he s3 Q' q'
    obtain ⟨d, hd1, hdx⟩ := dpa_of hds hx
    obtain ⟨l, hl, rfl⟩ := map_at hd1
    obtain ⟨z1, hz1, rfl⟩ := map_at he
    obtain ⟨z2, hz2, rfl⟩ := map_at hz1
    obtain ⟨l', hl', rfl⟩ := map_at hz2
    rw [hl] at hl'
    cases hl'
    obtain ⟨b, u, v, rfl, hb, hu, hv⟩ := dp_pair hdx
    obtain ⟨c1, z1, rfl, hc1, rfl⟩ := dp_seqN hv
    have s23 := s2.trans s3
    refine ⟨b, _, rfl, sqT_mono s23 hb, rfl, _, _, rfl, _, _, rfl, rfl, rfl, _, rfl, c1, _, rfl, .inr (sqT_mono s23 hc1), ?_⟩
    rw [List.length_map]
    exact q' _ _ (Same.refl _) (.int _)
  intro H3 s3 d3
  refine ⟨D2, _, rfl, sqL_of d3, _, _, rfl, rfl, le_line (by simp), fun p hp => ?_⟩
  rw [sum_nat, sum_nat]
  exact q _ _ ((s2.trans s3).trans (same_new hp)) (.tup (nw_newT ((s2.trans s3).free hp) upd_same) (.cons (.int _) (.cons (.int _) .nil)))
end
end Tk
namespace Tk
open PySem PySem.Spec PyProof.Rows L2
open SX (S)

section
variable {P : Program} {w : World} {K : PySem.W.Frag} {mg : Str → Option Value} {base : Heap} {C SH : Addr}

theorem sc__law_any_way : FnScope ["_law_pot", "_law_m", "_law_n", "_law_way", "_law_i", "_law_j", "_law_steps_here"] ["_law_pot", "_law_m", "_law_n"] (defScope (topS 42)) := ⟨rfl, rfl, rfl, by decide +kernel, rfl, by decide +kernel, by decide +kernel⟩
theorem bn__law_any_way : Bnd "_law_any_way" "_law_any_way" (topS 42) ["_law_pot", "_law_m", "_law_n"] := fun _ _ _ _ _ _ us hl => match us, hl with | [_, _, _], _ => rfl

theorem c__law_any_way (T : Txt K mg C SH) : C8.Cal P w K mg base 2 "_law_any_way" (sp__law_any_way K C) [] := by
  have c__law_next : C8.Cal P w K mg base 1 "_law_next" (sp__law_next K C) [] := Tk.c__law_next T
  have c__law_on : C8.Cal P w K mg base 1 "_law_on" (sp__law_on K C) [] := Tk.c__law_on T
  have c__law_steps : C8.Cal P w K mg base 1 "_law_steps" (sp__law_steps K C) [] := Tk.c__law_steps T
  refine calD T.d__law_any_way bn__law_any_way sc__law_any_way (fun vs H Q E h => by obtain ⟨_, _, _, rfl, _⟩ := h; rfl) (fun f cdv A outer s H vs Q E hr h => ?_)
  refine ⟨_, (pss_cons (ps_set (i := 3) sc__law_any_way.nd rfl (Or.inl rfl) (pe_lst pa_nil))
    (pss_cons (ps_asg (pe_tup (pa_cons pe_int (pa_cons pe_int pa_nil))) (pg_tupK K (n := 2) rfl rfl (pgs_cons (pg_name (i := 4) sc__law_any_way.nd rfl (Or.inl rfl)) (pgs_cons (pg_name (i := 5) sc__law_any_way.nd rfl (Or.inl rfl)) pgs_nil))))
    (pss_cons (ps_while PassesOwn.never (pt_cmpR (op_neDK K rfl hr.units) (pe_tup (pa_cons (pv 4) (pa_cons (pv 5) pa_nil))) (pe_tup (pa_cons (pv 1) (pa_cons (pv 2) pa_nil))) (nomark _))
      (pss_cons (ps_set (i := 6) sc__law_any_way.nd rfl (Or.inl rfl) (C8.pe_c c__law_steps hr (by decide) (by rfl) (pa_cons (pv 4) (pa_cons (pv 5) (pa_cons (pv 1) (pa_cons (pv 2) pa_nil))))))
      (pss_cons (ps_expr (pe_bm PySem.F.plainAttrs_list PySem.F.slot_list_append PySem.F.type_list_append mt_append (pv 3) (pa_cons (pe_ix (ix_listK K rfl) (pv 6) (C8.pe_c c__law_next hr (by decide) (by rfl) (pa_cons (pv 0) (pa_cons (pe_callB (call_lenK K rfl) (by rfl) T.len (by decide +kernel) (pa_cons (pv 6) pa_nil)) pa_nil))) (fun _ _ => rfl)) pa_nil)))
      (pss_one (ps_asg (C8.pe_c c__law_on hr (by decide) (by rfl) (pa_cons (pe_ix (ix_listK K rfl) (pv 3) (pe_un un_neg pe_int) (fun _ _ => rfl)) (pa_cons (pv 4) (pa_cons (pv 5) pa_nil)))) (pg_tupK K (n := 2) rfl rfl (pgs_cons (pg_name (i := 4) sc__law_any_way.nd rfl (Or.inl rfl)) (pgs_cons (pg_name (i := 5) sc__law_any_way.nd rfl (Or.inl rfl)) pgs_nil))))))))
    (pss_one (ps_ret (pe_tupleOfK K rfl (by rfl) T.tuple (pv 3))))))), ?_⟩
  obtain ⟨p, m, n, rfl, hp, hm30, hn30, q⟩ := h
  have hS : Le (one p) (dm H) := le_one (pot_some hp)
  refine ⟨le_line (by simp), fun o ho => ⟨le_line (by simp), fun t0 ht0 => ⟨t0, _, rfl, SqT.of upd_same, rfl, _, _, rfl, _, _, rfl, rfl, ?_⟩⟩⟩
  have hop := pot_ne hp ho
  have A0 : Acc K (one p) H o (upd (upd H o (.lst [])) t0 (.tup [.int 0, .int 0])) [] := acc_kp hS ho (acc_new (Kp.refl _ _) ho) (.new ht0)
  have p0 : Pot (upd (upd H o (.lst [])) t0 (.tup [.int 0, .int 0])) p := pot_upd (pot_upd hp hop) (pot_ne (pot_upd hp hop) ht0)
  generalize upd (upd H o (.lst [])) t0 (.tup [.int 0, .int 0]) = H1 at A0 p0
  refine ⟨fun μ σ H' => ∃ y6 i j w, σ = [some (.ref p), some (.int (m : Int)), some (.int (n : Int)), some (.ref o), some (.int ((i : Nat) : Int)), some (.int ((j : Nat) : Int)), y6] ∧ Acc K (one p) H o H' (w.map stD) ∧ Pot H' p ∧ Seg m n 0 0 w i j ∧ μ = (m - i) + (n - j),
    ⟨_, none, 0, 0, [], rfl, A0, p0, ⟨rfl, rfl⟩, rfl⟩, ?_⟩
  rintro μ σ H2 ⟨y6, i, j, w, rfl, A2, p2, sg, rfl⟩
  obtain ⟨hwl, him, hjn⟩ := seg_len sg (Nat.zero_le m) (Nat.zero_le n)
  refine ⟨_, rfl, _, rfl, le_line (by simp), fun z1 hz1 => ⟨_, rfl, _, rfl, le_line (by simp), fun z2 hz2 => ⟨prD2 (i, j), prD2 (m, n), dp_up dp_pr (same_new hz2), dp_pr, shp_pr _, shp_pr _, _, rfl, ?_⟩⟩⟩
  have p3 := pot_upd (o := .tup [.int (m : Int), .int (n : Int)]) (pot_upd (o := .tup [.int (i : Int), .int (j : Int)]) p2 (pot_ne p2 hz1)) (pot_ne (pot_upd p2 (pot_ne p2 hz1)) hz2)
  have A3 := acc_kp hS ho A2 ((Kp.new (o := .tup [.int (i : Int), .int (j : Int)]) hz1).trans (Kp.new (o := .tup [.int (m : Int), .int (n : Int)]) hz2))
  generalize upd (upd H2 z1 (.tup [.int (i : Int), .int (j : Int)])) z2 (.tup [.int (m : Int), .int (n : Int)]) = H3 at A3 p3
  clear A2 p2 hz1 hz2
  rw [eqv_pr]
  by_cases hend : (i, j) = (m, n)
  · rw [decide_eq_true hend]
    cases hend
    obtain ⟨acc, ha, hda⟩ := id A3.2
    exact iteF ⟨_, rfl, .inl ⟨o, _, rfl, SqL.of ha, fun z hz => q w _ _ (A3.1.trans (.new hz)) (pot_upd p3 (pot_ne p3 hz)) (seg_path sg) (acc_tup ho A3 ha hz)⟩⟩
  · rw [decide_eq_false hend]
    refine iteT ⟨fun σ' H' => ∃ μ', μ' < (m - i) + (n - j) ∧ ∃ y6 i j w, σ' = [some (.ref p), some (.int (m : Int)), some (.int (n : Int)), some (.ref o), some (.int ((i : Nat) : Int)), some (.int ((j : Nat) : Int)), y6] ∧ Acc K (one p) H o H' (w.map stD) ∧ Pot H' p ∧ Seg m n 0 0 w i j ∧ μ' = (m - i) + (n - j), fun _ _ h => h, ?_⟩
    refine ⟨_, rfl, _, rfl, _, rfl, _, rfl, i, j, m, n, rfl, him, hjn, hm30, hn30, fun v H4 s4 d4 => ?_⟩
    obtain ⟨av, xs, rfl, hxs, hds⟩ := dp_lst d4
    have hxl : xs.length = (lstP i j m n).length := by rw [dpa_len hds, List.length_map]
    have hx17 : xs.length ≤ 17 := by rw [hxl]; exact lstP_len _ _ _ _
    have hx0 : 0 < xs.length := by
      rw [hxl]
      refine List.length_pos_iff.mpr fun e => ?_
      have h0 : stpP i j m n = [] := by
        cases hs : stpP i j m n with
        | nil => rfl
        | cons s r =>
          have := (mem_lstP him hjn).mpr (show s ∈ stpP i j m n by rw [hs]; exact List.mem_cons_self ..)
          rw [e] at this
          exact absurd this List.not_mem_nil
      obtain ⟨e1, e2⟩ := stpP_nil h0 him hjn
      exact hend (by rw [e1, e2])
    obtain ⟨acc, ha, hda⟩ := id A3.2
    refine ⟨_, rfl, .inl ⟨rfl, _, SqL.of (s4 _ _ ha)⟩, _, rfl, _, rfl, _, rfl, av, _, rfl, .inl (sqL_mono (ex_same _ _) hxs), p, xs.length, rfl, pot_mono s4 p3, hx0, by omega, fun d H5 hd k5 p5 => ?_⟩
    have vw : Same (nw H3 H4) (nw H3 H5) := (k5.mono (le_one (pot_some p3))).ex
    have hx := List.getElem?_eq_getElem hd
    generalize xs[d] = x at hx
    obtain ⟨ds, hd1, hdx⟩ := dpa_of (dpa_up hds vw) hx
    obtain ⟨s0, hs0, rfl⟩ := map_at hd1
    have hmem := (mem_lstP him hjn).mp (List.mem_of_getElem? hs0)
    obtain ⟨e1, e2, e3, e4, e5⟩ := endP_le hmem him hjn
    have hal : acc.length ≤ 60 := by
      rw [acc_len A3 ha, List.length_map]; omega
    have k35 : Kp (one p) H3 H5 := (Kp.of s4).trans k5
    have ha5 : H5 o = some (.lst acc) := k35.1 _ _ (one_ne hop) ha
    have A6 := acc_push hS ho A3 ha k35 hdx
    refine ⟨_, _, _, _, rfl, rfl, sqL_mono ((ex_same _ _)) (sqL_mono vw hxs), atI_nat hx, o, _, _, rfl, rfl, ha5, lt_line (by omega), _, rfl, _, rfl, _, _, _, _, rfl, rfl, SqL.of upd_same, at_last _ _, _, rfl, _, rfl, ?_⟩
    refine ⟨x, s0, i, j, rfl, dp_up hdx ?_, (stp_len hmem).2, fun v7 H7 s7 d7 => ?_⟩
    · intro a u ea
      obtain ⟨ea1, ea2⟩ := of_ex ea
      rw [upd_ne (fun z => by rw [z, dm_some ha] at ea1; cases ea1)]
      exact ea2
    · obtain ⟨t7, u7, v7', rfl, h7, hu7, hv7⟩ := dp_pair d7
      have e7 := dp_int hu7
      have e8 := dp_int hv7
      subst e7 e8
      have A7 := acc_kp hS ho A6 (.of s7)
      refine ⟨t7, _, rfl, sqT_mono (ex_same _ _) h7, rfl, _, _, rfl, _, _, rfl, rfl, _, ?_, some (.ref av), (endP s0 i j).1, (endP s0 i j).2, w ++ [s0], rfl, by rw [List.map_append]; exact A7, pot_mono s7 (pot_upd p5 hop), seg_snoc sg hmem, rfl⟩
      omega
end
end Tk
namespace Tk
open PySem PySem.Spec PyProof.Rows L2
open SX (S)

section
variable {P : Program} {w : World} {K : PySem.W.Frag} {mg : Str → Option Value} {base : Heap} {C SH : Addr}

theorem sc__law_paid : FnScope ["_law_sides_here", "_law_known_here", "_law_prices_here", "_law_way", "_law_step_here"] ["_law_sides_here", "_law_known_here", "_law_prices_here", "_law_way"] (defScope (topS 43)) := ⟨rfl, rfl, rfl, by decide +kernel, rfl, by decide +kernel, by decide +kernel⟩
theorem bn__law_paid : Bnd "_law_paid" "_law_paid" (topS 43) ["_law_sides_here", "_law_known_here", "_law_prices_here", "_law_way"] := fun _ _ _ _ _ _ us hl => match us, hl with | [_, _, _, _], _ => rfl
theorem path_st {m n : Nat} : ∀ {w : List Stp} {i j : Nat}, Path m n i j w → i ≤ m → j ≤ n → ∀ s ∈ w, ∃ k l, s ∈ stpP k l m n ∧ k ≤ m ∧ l ≤ n
  | [], _, _, _, _, _, _, h => absurd h List.not_mem_nil
  | s :: w, i, j, hp, hi, hj, t, h => by
    rcases List.mem_cons.mp h with e | e
    · subst e
      exact ⟨i, j, hp.1, hi, hj⟩
    · obtain ⟨h1, h2, h3, h4, h5⟩ := endP_le hp.1 hi hj
      exact path_st hp.2 h2 h4 t e
theorem c__law_paid (T : Txt K mg C SH) : C8.Cal P w K mg base 3 "_law_paid" (sp__law_paid K C) [] := by
  have c__law_step : C8.Cal P w K mg base 2 "_law_step" (sp__law_step K C) [] := Tk.c__law_step T
  refine calD T.d__law_paid bn__law_paid sc__law_paid (fun vs H Q E h => by obtain ⟨_, _, _, _, _, _, rfl, _⟩ := h; rfl) (fun f cdv A outer s H vs Q E hr h => ?_)
  refine ⟨_, (pss_one (ps_ret (pe_callB (cr_sumK K rfl rfl) (by rfl) T.sum (by decide +kernel) (pa_cons (pe_lc (own := [("_law_step_here", 4)]) (tt := tYes) rfl sc__law_paid.nd (pi_tupK K rfl (pv 3)) (blkOk_by (N := ["_law_sides_here", "_law_known_here", "_law_prices_here", "_law_way", "_law_step_here"]) (sc := defScope (topS 43)) (by decide +kernel)) (fun _ _ _ _ _ => by exact (pg_name (i := 4) sc__law_paid.nd rfl (Or.inl rfl))) (fun _ _ _ _ _ => by exact pts_nil) (fun _ _ _ _ _ => by exact (C8.pe_c c__law_step hr (by decide) (by rfl) (pa_cons (pv 0) (pa_cons (pv 4) (pa_cons (pv 1) (pa_cons (pv 2) pa_nil))))))) pa_nil)))), ?_⟩
  obtain ⟨vs, vk, vp, vx, P, w, rfl, lc, hx, hpath, q⟩ := h
  obtain ⟨ax, xs, rfl, hxs, hds⟩ := dp_tup hx
  have hxl : xs.length = w.length := by rw [dpa_len hds, List.length_map]
  have hwl := seg_len (path_seg hpath) (Nat.zero_le _) (Nat.zero_le _)
  have n1 := lc.1.n1
  have n2 := lc.1.n2
  refine ⟨_, rfl, ax, rfl, ⟨_, hxs⟩, fun D hD => lcT_map (K := K) hxs (w.map fun s => PyData.int (stC P s)) (by rw [List.length_map, hxl]) hD (by rw [hxl]; exact lt_line (by omega)) ?_ ?_⟩
  · intro i y e H2 hy he s2 Q' q'
    obtain ⟨d, hd1, hdw⟩ := dpa_of hds hy
    obtain ⟨st, hl, rfl⟩ := map_at hd1
    obtain ⟨l', hl', rfl⟩ := map_at he
    rw [hl] at hl'
    cases hl'
    obtain ⟨k1, l1, hmem, _, _⟩ := path_st hpath (Nat.zero_le _) (Nat.zero_le _) st (List.mem_of_getElem? hl)
    exact ⟨rfl, _, rfl, _, rfl, _, rfl, _, rfl, vs, y, vk, vp, P, st, rfl, lawC_mono s2 lc, dp_up hdw s2, stp_ok hmem (Nat.le_refl _) (Nat.le_refl _), (stp_len hmem).1, fun H3 s3 => q' _ _ s3 (.int _)⟩
  intro H2 s2 d2
  refine ⟨D, w.map (stC P), rfl, sqL_of (by rw [List.map_map]; exact d2), ?_⟩
  exact q H2 s2
end
end Tk
namespace Tk
open PySem PySem.Spec PyProof.Rows L2
open SX (S)

section
variable {P : Program} {w : World} {K : PySem.W.Frag} {mg : Str → Option Value} {base : Heap} {C SH : Addr}

theorem sc__law_through : FnScope ["_law_way", "_law_m", "_law_n", "_law_i", "_law_j", "_law_step_here"] ["_law_way", "_law_m", "_law_n"] (defScope (topS 44)) := ⟨rfl, rfl, rfl, by decide +kernel, rfl, by decide +kernel, by decide +kernel⟩
theorem bn__law_through : Bnd "_law_through" "_law_through" (topS 44) ["_law_way", "_law_m", "_law_n"] := fun _ _ _ _ _ _ us hl => match us, hl with | [_, _, _], _ => rfl
theorem path_in {m n : Nat} : ∀ {w : List Stp} {i j t k l : Nat}, Path m n i j w → Seg m n i j (w.take t) k l → Path m n k l (w.drop t)
  | [], _, _, _, _, _, h, sg => by
    rw [List.take_nil] at sg
    obtain ⟨rfl, rfl⟩ := sg
    rw [List.drop_nil]; exact h
  | _ :: _, _, _, 0, _, _, h, sg => by
    obtain ⟨rfl, rfl⟩ := sg
    exact h
  | s :: w, i, j, t + 1, k, l, h, sg => by
    rw [List.take_succ_cons] at sg
    rw [List.drop_succ_cons]
    exact path_in h.2 sg.2
theorem c__law_through (T : Txt K mg C SH) : C8.Cal P w K mg base 2 "_law_through" (sp__law_through K C) [] := by
  have c__law_on : C8.Cal P w K mg base 1 "_law_on" (sp__law_on K C) [] := Tk.c__law_on T
  have c__law_steps : C8.Cal P w K mg base 1 "_law_steps" (sp__law_steps K C) [] := Tk.c__law_steps T
  refine calD T.d__law_through bn__law_through sc__law_through (fun vs H Q E h => by obtain ⟨_, _, _, _, rfl, _⟩ := h; rfl) (fun f cdv A outer s H vs Q E hr h => ?_)
  refine ⟨_, (pss_cons (ps_asg (pe_tup (pa_cons pe_int (pa_cons pe_int pa_nil))) (pg_tupK K (n := 2) rfl rfl (pgs_cons (pg_name (i := 3) sc__law_through.nd rfl (Or.inl rfl)) (pgs_cons (pg_name (i := 4) sc__law_through.nd rfl (Or.inl rfl)) pgs_nil))))
    (pss_cons (ps_for PassesOwn.never rfl (pi_tupK K rfl (pv 0)) (pg_name (i := 5) sc__law_through.nd rfl (Or.inl rfl))
      (pss_cons (ps_if (pt_cmpR (op_notInDK K rfl (un65 hr)) (pv 5) (C8.pe_c c__law_steps hr (by decide) (by rfl) (pa_cons (pv 3) (pa_cons (pv 4) (pa_cons (pv 1) (pa_cons (pv 2) pa_nil))))) (by rfl)) (pss_one (ps_ret pe_bl)) pss_nil)
      (pss_one (ps_asg (C8.pe_c c__law_on hr (by decide) (by rfl) (pa_cons (pv 5) (pa_cons (pv 3) (pa_cons (pv 4) pa_nil)))) (pg_tupK K (n := 2) rfl rfl (pgs_cons (pg_name (i := 3) sc__law_through.nd rfl (Or.inl rfl)) (pgs_cons (pg_name (i := 4) sc__law_through.nd rfl (Or.inl rfl)) pgs_nil)))))))
    (pss_one (ps_ret (pe_cmpR (op_eqDK K rfl hr.units) (pe_tup (pa_cons (pv 3) (pa_cons (pv 4) pa_nil))) (pe_tup (pa_cons (pv 1) (pa_cons (pv 2) pa_nil))) (nomark _)))))), ?_⟩
  obtain ⟨v, m, n, w, rfl, hm30, hn30, hd, hpath, q⟩ := h
  obtain ⟨aw, xs, rfl, hxs, hds⟩ := dp_tup hd
  have hxl : xs.length = w.length := by rw [dpa_len hds, List.length_map]
  refine ⟨le_line (by simp), fun t0 ht0 => ⟨t0, _, rfl, SqT.of upd_same, rfl, _, _, rfl, _, _, rfl, rfl, ?_⟩⟩
  have s0 := same_new (o := .tup [.int 0, .int 0]) ht0
  refine ⟨_, rfl, aw, rfl, ⟨_, sqT_mono s0 hxs⟩, for_tup (K := K) (a := aw) (xs := xs) (fun t σ H' => ∃ y5 i j, σ = [some (.ref aw), some (.int (m : Int)), some (.int (n : Int)), some (.int ((i : Nat) : Int)), some (.int ((j : Nat) : Int)), y5] ∧ Same H H' ∧ Seg m n 0 0 (w.take t) i j)
    ⟨none, 0, 0, rfl, s0, rfl, rfl⟩ (fun t σ H' _ ⟨_, _, _, _, s, _⟩ => sqT_mono s hxs) ?_ ?_⟩
  · rintro t x σ H' hx ⟨y5, i, j, rfl, s, sg⟩
    obtain ⟨d, hd1, hdx⟩ := dpa_of hds hx
    obtain ⟨s1, hs1, rfl⟩ := map_at hd1
    obtain ⟨hwl, him, hjn⟩ := seg_len sg (Nat.zero_le m) (Nat.zero_le n)
    have hp2 := path_in hpath sg
    have hdrop : w.drop t = s1 :: w.drop (t + 1) := by
      rw [List.drop_eq_getElem_cons (at_lt hs1)]
      congr 1
      exact Option.some.inj ((List.getElem?_eq_getElem (at_lt hs1)).symm.trans hs1)
    rw [hdrop] at hp2
    have hmem := hp2.1
    have hdx' := dp_up hdx s
    refine ⟨_, rfl, _, rfl, _, rfl, _, rfl, _, rfl, i, j, m, n, rfl, him, hjn, hm30, hn30, fun v3 H3 s3 d3 => ?_⟩
    refine ⟨stD s1, _, dp_up hdx' s3, dp_up d3 (ex_same _ _), shp_stD _, shp_stDs _, _, rfl, ?_⟩
    rw [any_stD, decide_eq_true ((mem_lstP him hjn).mpr hmem)]
    refine iteF ?_
    have s03 := s.trans s3
    refine ⟨_, rfl, _, rfl, _, rfl, x, s1, i, j, rfl, dp_up hdx s03, (stp_len hmem).2, fun v5 H5 s5 d5 => ?_⟩
    obtain ⟨t7, u7, v7, rfl, h7, hu7, hv7⟩ := dp_pair d5
    have e7 := dp_int hu7
    have e8 := dp_int hv7
    subst e7 e8
    refine ⟨t7, _, rfl, sqT_mono (ex_same _ _) h7, rfl, _, _, rfl, _, _, rfl, rfl, some x, (endP s1 i j).1, (endP s1 i j).2, rfl, s03.trans s5, ?_⟩
    rw [take_at hs1]; exact seg_snoc sg hmem
  · rintro σ H' ⟨y5, i, j, rfl, s, sg⟩
    have hp2 := path_in hpath sg
    rw [hxl, List.drop_length] at hp2
    obtain ⟨rfl, rfl⟩ := hp2
    refine ⟨_, rfl, _, rfl, le_line (by simp), fun z1 hz1 => ⟨_, rfl, _, rfl, le_line (by simp), fun z2 hz2 => ⟨prD2 (i, j), prD2 (i, j), dp_up dp_pr (same_new hz2), dp_pr, shp_pr _, shp_pr _, ?_⟩⟩⟩
    rw [eqv_pr, decide_eq_true rfl]
    exact q _ (s.trans ((same_new hz1).trans (same_new hz2)))
end
end Tk
namespace Tk
open PySem PySem.Spec PyProof.Rows L2
open SX (S)

section
variable {P : Program} {w : World} {K : PySem.W.Frag} {mg : Str → Option Value} {base : Heap} {C SH : Addr}

theorem sc__law_grid_holds : FnScope ["_law_sides_here", "_law_known_here", "_law_prices_here", "_law_m", "_law_n", "_law_grid", "_law_i", "_law_j", "_law_step_here", "_law_to", "_law_at"] ["_law_sides_here", "_law_known_here", "_law_prices_here", "_law_m", "_law_n", "_law_grid"] (defScope (topS 45)) := ⟨rfl, rfl, rfl, by decide +kernel, rfl, by decide +kernel, by decide +kernel⟩
theorem bn__law_grid_holds : Bnd "_law_grid_holds" "_law_grid_holds" (topS 45) ["_law_sides_here", "_law_known_here", "_law_prices_here", "_law_m", "_law_n", "_law_grid"] := fun _ _ _ _ _ _ us hl => match us, hl with | [_, _, _, _, _, _], _ => rfl

theorem c__law_grid_holds (T : Txt K mg C SH) : C8.Cal P w K mg base 3 "_law_grid_holds" (sp__law_grid_holds K C) [] := by
  have c__law_on : C8.Cal P w K mg base 1 "_law_on" (sp__law_on K C) [] := Tk.c__law_on T
  have c__law_step : C8.Cal P w K mg base 2 "_law_step" (sp__law_step K C) [] := Tk.c__law_step T
  have c__law_steps : C8.Cal P w K mg base 1 "_law_steps" (sp__law_steps K C) [] := Tk.c__law_steps T
  refine calD T.d__law_grid_holds bn__law_grid_holds sc__law_grid_holds (fun vs H Q E h => by obtain ⟨_, _, _, _, _, _, _, _, rfl, _⟩ := h; rfl) (fun f cdv A outer s H vs Q E hr h => ?_)
  refine ⟨_, (pss_cons (ps_for PassesOwn.never rfl (pi_range1 (by rfl) T.range (pa_cons (pe_op op_add (pv 3) pe_int) pa_nil)) (pg_name (i := 6) sc__law_grid_holds.nd rfl (Or.inl rfl))
      (pss_one (ps_for PassesOwn.never rfl (pi_range1 (by rfl) T.range (pa_cons (pe_op op_add (pv 4) pe_int) pa_nil)) (pg_name (i := 7) sc__law_grid_holds.nd rfl (Or.inl rfl))
        (pss_one (ps_for PassesOwn.never rfl (pi_listK K rfl (C8.pe_c c__law_steps hr (by decide) (by rfl) (pa_cons (pv 6) (pa_cons (pv 7) (pa_cons (pv 3) (pa_cons (pv 4) pa_nil)))))) (pg_name (i := 8) sc__law_grid_holds.nd rfl (Or.inl rfl))
          (pss_cons (ps_asg (C8.pe_c c__law_on hr (by decide) (by rfl) (pa_cons (pv 8) (pa_cons (pv 6) (pa_cons (pv 7) pa_nil)))) (pg_tupK K (n := 2) rfl rfl (pgs_cons (pg_name (i := 9) sc__law_grid_holds.nd rfl (Or.inl rfl)) (pgs_cons (pg_name (i := 10) sc__law_grid_holds.nd rfl (Or.inl rfl)) pgs_nil))))
          (pss_one (ps_if (pt_cmpR op_lt (C8.pe_c c__law_step hr (by decide) (by rfl) (pa_cons (pv 0) (pa_cons (pv 8) (pa_cons (pv 1) (pa_cons (pv 2) pa_nil))))) (pe_op op_sub (pe_ix (ix_tupK K rfl) (pe_ix (ix_tupK K rfl) (pv 5) (pv 9) (fun _ _ => rfl)) (pv 10) (fun _ _ => rfl)) (pe_ix (ix_tupK K rfl) (pe_ix (ix_tupK K rfl) (pv 5) (pv 6) (fun _ _ => rfl)) (pv 7) (fun _ _ => rfl))) (nomark _)) (pss_one (ps_ret pe_bl)) pss_nil))))))))
    (pss_one (ps_ret pe_bl))), ?_⟩
  obtain ⟨vs, vk, vp, v, P, m, n, g, rfl, lc, hm, hn, hd, G, U, q⟩ := h
  have hm30 : m ≤ 30 := by rw [hm]; exact lc.1.n1
  have hn30 : n ≤ 30 := by rw [hn]; exact lc.1.n2
  refine ⟨_, rfl, _, _, rfl, rfl, _, rfl, by omega, by omega, for_range (fun t σ H' => ∃ y4 y5 y6 y7 y8, σ = [some vs, some vk, some vp, some (.int (m : Int)), some (.int (n : Int)), some v, y4, y5, y6, y7, y8] ∧ Same H H') ⟨_, _, _, _, _, rfl, Same.refl _⟩ ?_ ?_⟩
  · rintro i σ H2 hi ⟨y4, y5, y6, y7, y8, rfl, s2⟩
    have him : i ≤ m := by omega
    rw [Int.zero_add]
    refine ⟨_, rfl, _, _, rfl, rfl, _, rfl, by omega, by omega, for_range (fun t σ H' => ∃ y5 y6 y7 y8, σ = [some vs, some vk, some vp, some (.int (m : Int)), some (.int (n : Int)), some v, some (.int (i : Int)), y5, y6, y7, y8] ∧ Same H H') ⟨_, _, _, _, rfl, s2⟩ ?_ ?_⟩
    · clear s2
      rintro j σ H3 hj ⟨y5, y6, y7, y8, rfl, s3⟩
      have hjn : j ≤ n := by omega
      rw [Int.zero_add]
      refine ⟨_, rfl, _, rfl, _, rfl, _, rfl, i, j, m, n, rfl, him, hjn, hm30, hn30, fun v4 H4 s4 d4 => ?_⟩
      obtain ⟨av, xs, rfl, hxs, hds⟩ := dp_lst d4
      have hxs' := sqL_mono (ex_same _ _) hxs
      refine ⟨av, rfl, ⟨_, hxs'⟩, for_list (K := K) (a := av) (xs := xs) (fun t σ H' => ∃ y6 y7 y8, σ = [some vs, some vk, some vp, some (.int (m : Int)), some (.int (n : Int)), some v, some (.int (i : Int)), some (.int (j : Int)), y6, y7, y8] ∧ Same H4 H') ⟨_, _, _, rfl, Same.refl _⟩ (fun t σ H' _ ⟨_, _, _, _, s⟩ => sqL_mono s hxs') ?_ ?_⟩
      · rintro t x σ H5 hx ⟨y6, y7, y8, rfl, s5⟩
        obtain ⟨d, hd1, hdx⟩ := dpa_of hds hx
        obtain ⟨s1, hs1, rfl⟩ := map_at hd1
        have hmem := (mem_lstP him hjn).mp (List.mem_of_getElem? hs1)
        have hdx5 := dp_up hdx ((ex_same _ _).trans s5)
        obtain ⟨e1, e2, e3, e4, e5⟩ := endP_le hmem him hjn
        refine ⟨_, rfl, _, rfl, _, rfl, x, s1, i, j, rfl, hdx5, (stp_len hmem).2, fun v6 H6 s6 d6 => ?_⟩
        obtain ⟨t7, u7, v7, rfl, ht7, hu7, hv7⟩ := dp_pair d6
        have e7 := dp_int hu7
        have e8 := dp_int hv7
        subst e7 e8
        refine ⟨t7, _, rfl, sqT_mono (ex_same _ _) ht7, rfl, _, _, rfl, _, _, rfl, rfl, ?_⟩
        have s06 := s3.trans (s4.trans (s5.trans s6))
        refine ⟨_, rfl, _, rfl, _, rfl, _, rfl, vs, x, vk, vp, P, s1, rfl, lawC_mono s06 lc, dp_up hdx5 s6, stp_ok hmem (by omega) (by omega), (stp_len hmem).1, fun H7 s7 => ?_⟩
        have s07 := s06.trans s7
        have hd7 := dp_up hd s07
        obtain ⟨r, rows, c, cells, rfl, hrs, hra, hcs, hca⟩ := pgrd_at hd7 G e2 e4
        obtain ⟨r', rows', c', cells', e, hrs', hra', hcs', hca'⟩ := pgrd_at hd7 G him hjn
        cases e
        refine ⟨_, rfl, _, rfl, _, _, _, _, rfl, rfl, hrs, atI_nat hra, _, rfl, _, _, _, _, rfl, rfl, hcs, atI_nat hca, _, rfl, _, rfl, _, _, _, _, rfl, rfl, hrs', atI_nat hra', _, rfl, _, _, _, _, rfl, rfl, hcs', atI_nat hca', _, _, rfl, rfl, _, _, rfl, rfl, _, rfl, ?_⟩
        rw [decide_eq_false (by have := U i j s1 him hjn hmem; omega)]
        exact iteF ⟨_, _, _, rfl, s5.trans (s6.trans s7)⟩
      · rintro σ H5 ⟨y6, y7, y8, rfl, s5⟩
        exact ⟨_, _, _, _, rfl, s3.trans (s4.trans s5)⟩
    · rintro σ H3 ⟨y5, y6, y7, y8, rfl, s3⟩
      exact ⟨_, _, _, _, _, rfl, s3⟩
  · rintro σ H2 ⟨y4, y5, y6, y7, y8, rfl, s2⟩
    exact q H2 s2
end
end Tk
namespace Tk
open PySem PySem.Spec PyProof.Rows L2
open SX (S)

section
variable {P : Program} {w : World} {K : PySem.W.Frag} {mg : Str → Option Value} {base : Heap} {C SH : Addr}

theorem sc__law_whole : FnScope ["_law_thing"] ["_law_thing"] (defScope (topS 46)) := ⟨rfl, rfl, rfl, by decide +kernel, rfl, by decide +kernel, by decide +kernel⟩
theorem bn__law_whole : Bnd "_law_whole" "_law_whole" (topS 46) ["_law_thing"] := fun _ _ _ _ _ _ us hl => match us, hl with | [_], _ => rfl

theorem c__law_whole (T : Txt K mg C SH) : C8.Cal P w K mg base 1 "_law_whole" (sp__law_whole K C) [] := by
  refine calD T.d__law_whole bn__law_whole sc__law_whole (fun vs H Q E h => by obtain ⟨_, rfl, _⟩ := h; rfl) (fun f cdv A outer s H vs Q E hr h => ?_)
  refine ⟨_, (pss_one (ps_ret (pe_and (pe_callB (call_isiK' K rfl) (by rfl) T.isinstance (by decide +kernel) (pa_cons (pv 0) (pa_cons (pe_bltn (by rfl) T.int (v := .ty "int") (by decide +kernel) rfl) pa_nil))) (pe_one (pe_not (pe_callB (call_isiK' K rfl) (by rfl) T.isinstance (by decide +kernel) (pa_cons (pv 0) (pa_cons (pe_bltn (by rfl) T.bool (v := .ty "bool") (by decide +kernel) rfl) pa_nil)))))))), ?_⟩
  obtain ⟨i, rfl, q⟩ := h
  exact ⟨_, rfl, _, _, _, _, true, rfl, .ty _, .base (.int _), k_ii, _, rfl, iteT ⟨_, rfl, _, _, _, _, false, rfl, .ty _, .base (.int _), k_ib, _, rfl, q H (Same.refl _)⟩⟩
end
end Tk
namespace Tk
open PySem PySem.Spec PyProof.Rows L2
open SX (S)

section
variable {P : Program} {w : World} {K : PySem.W.Frag} {mg : Str → Option Value} {base : Heap} {C SH : Addr}

theorem sc__law_wholes : FnScope ["_law_thing", "_law_many", "_law_part"] ["_law_thing", "_law_many"] (defScope (topS 47)) := ⟨rfl, rfl, rfl, by decide +kernel, rfl, by decide +kernel, by decide +kernel⟩
theorem bn__law_wholes : Bnd "_law_wholes" "_law_wholes" (topS 47) ["_law_thing", "_law_many"] := fun _ _ _ _ _ _ us hl => match us, hl with | [_, _], _ => rfl

theorem c__law_wholes (T : Txt K mg C SH) : C8.Cal P w K mg base 2 "_law_wholes" (sp__law_wholes K C) [] := by
  have c__law_whole : C8.Cal P w K mg base 1 "_law_whole" (sp__law_whole K C) [] := Tk.c__law_whole T
  refine calD T.d__law_wholes bn__law_wholes sc__law_wholes (fun vs H Q E h => by obtain ⟨_, _, _, rfl, _⟩ := h; rfl) (fun f cdv A outer s H vs Q E hr h => ?_)
  refine ⟨_, (pss_one (ps_ret (pe_and (pe_callB (call_isiK' K rfl) (by rfl) T.isinstance (by decide +kernel) (pa_cons (pv 0) (pa_cons (pe_bltn (by rfl) T.tuple (v := .ty "tuple") (by decide +kernel) rfl) pa_nil))) (pe_and (pe_cmpR op_eq (pe_callB (call_lenK K rfl) (by rfl) T.len (by decide +kernel) (pa_cons (pv 0) pa_nil)) (pv 1) (nomark _)) (pe_one (pe_callB (cr_allK K rfl rfl) (by rfl) T.all (by decide +kernel) (pa_cons (pe_lc (own := [("_law_part", 2)]) (tt := tYes) rfl sc__law_wholes.nd (pi_tupK K rfl (pv 0)) (blkOk_by (N := ["_law_thing", "_law_many", "_law_part"]) (sc := defScope (topS 47)) (by decide +kernel)) (fun _ _ _ _ _ => by exact (pg_name (i := 2) sc__law_wholes.nd rfl (Or.inl rfl))) (fun _ _ _ _ _ => by exact pts_nil) (fun _ _ _ _ _ => by exact (C8.pe_c c__law_whole hr (by decide) (by rfl) (pa_cons (pv 2) pa_nil)))) pa_nil))))))), ?_⟩
  obtain ⟨v, ns, k, rfl, hd, hk, hl, q⟩ := h
  obtain ⟨a, rfl, hs⟩ := dp_ints hd
  refine ⟨_, rfl, _, _, _, _, true, rfl, .ty _, ty_tup hs, k_tt, _, rfl, iteT ⟨_, rfl, a, _, rfl, .inr hs, _, rfl, rfl, _, rfl, ?_⟩⟩
  rw [List.length_map, decide_eq_true (show V.int (ns.length : Int) = V.int k by rw [hk])]
  refine iteT ⟨_, rfl, a, rfl, ⟨_, hs⟩, fun D hD => lcT_map (K := K) hs ((ns.map fun _ => true).map .bool) (by simp) hD (by rw [List.length_map]; exact lt_line (by omega)) ?_ ?_⟩
  · intro t x e H2 hx he s2 Q' q'
    obtain ⟨i, hi, rfl⟩ := map_at hx
    obtain ⟨b, hb, rfl⟩ := map_at he
    obtain ⟨i', hi', rfl⟩ := map_at hb
    exact ⟨rfl, _, rfl, i, rfl, fun H3 s3 => q' _ _ s3 (.bl _)⟩
  · intro H2 s2 d2
    refine ⟨D, _, rfl, sqL_ofB d2, ?_⟩
    rw [show ((ns.map fun _ => true).all id) = true by simp]
    exact q H2 s2
end
end Tk
namespace Tk
open PySem PySem.Spec PyProof.Rows L2
open SX (S)

section
variable {P : Program} {w : World} {K : PySem.W.Frag} {mg : Str → Option Value} {base : Heap} {C SH : Addr}

theorem sc__law_kinds : FnScope ["_law_told", "_law_m", "_law_n", "_law_step_here", "_law_link_here", "_law_side", "_law_row"] ["_law_told", "_law_m", "_law_n"] (defScope (topS 48)) := ⟨rfl, rfl, rfl, by decide +kernel, rfl, by decide +kernel, by decide +kernel⟩
theorem bn__law_kinds : Bnd "_law_kinds" "_law_kinds" (topS 48) ["_law_told", "_law_m", "_law_n"] := fun _ _ _ _ _ _ us hl => match us, hl with | [_, _, _], _ => rfl

theorem c__law_kinds (T : Txt K mg C SH) : C8.Cal P w K mg base 3 "_law_kinds" (sp__law_kinds K C) [] := by
  have c__law_whole : C8.Cal P w K mg base 1 "_law_whole" (sp__law_whole K C) [] := Tk.c__law_whole T
  have c__law_wholes : C8.Cal P w K mg base 2 "_law_wholes" (sp__law_wholes K C) [] := Tk.c__law_wholes T
  refine calD T.d__law_kinds bn__law_kinds sc__law_kinds (fun vs H Q E h => by obtain ⟨_, _, _, _, _, _, rfl, _⟩ := h; rfl) (fun f cdv A outer s H vs Q E hr h => ?_)
  refine ⟨_, (pss_cons (ps_if (PW.pt (pw_or (pt_not (pt_val (pe_callB (call_isiK' K rfl) (by rfl) T.isinstance (by decide +kernel) (pa_cons (pv 0) (pa_cons (pe_bltn (by rfl) T.tuple (v := .ty "tuple") (by decide +kernel) rfl) pa_nil))))) (pw_or1 (pt_cmpR op_ne (pe_callB (call_lenK K rfl) (by rfl) T.len (by decide +kernel) (pa_cons (pv 0) pa_nil)) pe_int (nomark _))))) (pss_one (ps_ret pe_bl)) pss_nil)
    (pss_cons (ps_if (PW.pt (pw_or (pt_not (pt_val (C8.pe_c c__law_whole hr (by decide) (by rfl) (pa_cons (pe_ix (ix_tupK K rfl) (pv 0) pe_int (fun _ _ => rfl)) pa_nil)))) (pw_or1 (pt_not (pt_val (pe_callB (call_isiK' K rfl) (by rfl) T.isinstance (by decide +kernel) (pa_cons (pe_ix (ix_tupK K rfl) (pv 0) pe_int (fun _ _ => rfl)) (pa_cons (pe_bltn (by rfl) T.tuple (v := .ty "tuple") (by decide +kernel) rfl) pa_nil)))))))) (pss_one (ps_ret pe_bl)) pss_nil)
    (pss_cons (ps_for PassesOwn.never rfl (pi_tupK K rfl (pe_ix (ix_tupK K rfl) (pv 0) pe_int (fun _ _ => rfl))) (pg_name (i := 3) sc__law_kinds.nd rfl (Or.inl rfl))
      (pss_cons (ps_if (pt_not (pt_val (pe_callB (call_isiK' K rfl) (by rfl) T.isinstance (by decide +kernel) (pa_cons (pv 3) (pa_cons (pe_bltn (by rfl) T.tuple (v := .ty "tuple") (by decide +kernel) rfl) pa_nil))))) (pss_one (ps_ret pe_bl)) pss_nil)
      (pss_one (ps_for PassesOwn.never rfl (pi_tupK K rfl (pv 3)) (pg_name (i := 4) sc__law_kinds.nd rfl (Or.inl rfl))
        (pss_cons (ps_if (PW.pt (pw_or (pt_not (pt_val (pe_callB (call_isiK' K rfl) (by rfl) T.isinstance (by decide +kernel) (pa_cons (pv 4) (pa_cons (pe_bltn (by rfl) T.tuple (v := .ty "tuple") (by decide +kernel) rfl) pa_nil))))) (pw_or1 (pt_cmpR op_ne (pe_callB (call_lenK K rfl) (by rfl) T.len (by decide +kernel) (pa_cons (pv 4) pa_nil)) pe_int (nomark _))))) (pss_one (ps_ret pe_bl)) pss_nil)
        (pss_one (ps_for PassesOwn.never rfl (pi_tupK K rfl (pv 4)) (pg_name (i := 5) sc__law_kinds.nd rfl (Or.inl rfl))
          (pss_one (ps_if (PW.pt (pw_or (pt_not (pt_val (pe_callB (call_isiK' K rfl) (by rfl) T.isinstance (by decide +kernel) (pa_cons (pv 5) (pa_cons (pe_bltn (by rfl) T.tuple (v := .ty "tuple") (by decide +kernel) rfl) pa_nil))))) (pw_or1 (pt_not (pt_val (C8.pe_c c__law_wholes hr (by decide) (by rfl) (pa_cons (pv 5) (pa_cons (pe_callB (call_lenK K rfl) (by rfl) T.len (by decide +kernel) (pa_cons (pv 5) pa_nil)) pa_nil)))))))) (pss_one (ps_ret pe_bl)) pss_nil)))))))))
    (pss_cons (ps_if (PW.pt (pw_or (pt_not (pt_val (pe_callB (call_isiK' K rfl) (by rfl) T.isinstance (by decide +kernel) (pa_cons (pe_ix (ix_tupK K rfl) (pv 0) pe_int (fun _ _ => rfl)) (pa_cons (pe_bltn (by rfl) T.tuple (v := .ty "tuple") (by decide +kernel) rfl) pa_nil))))) (pw_or1 (pt_cmpR op_ne (pe_callB (call_lenK K rfl) (by rfl) T.len (by decide +kernel) (pa_cons (pe_ix (ix_tupK K rfl) (pv 0) pe_int (fun _ _ => rfl)) pa_nil)) (pe_op op_add (pv 1) pe_int) (nomark _))))) (pss_one (ps_ret pe_bl)) pss_nil)
    (pss_one (ps_ret (pe_callB (cr_allK K rfl rfl) (by rfl) T.all (by decide +kernel) (pa_cons (pe_lc (own := [("_law_row", 6)]) (tt := tYes) rfl sc__law_kinds.nd (pi_tupK K rfl (pe_ix (ix_tupK K rfl) (pv 0) pe_int (fun _ _ => rfl))) (blkOk_by (N := ["_law_told", "_law_m", "_law_n", "_law_step_here", "_law_link_here", "_law_side", "_law_row"]) (sc := defScope (topS 48)) (by decide +kernel)) (fun _ _ _ _ _ => by exact (pg_name (i := 6) sc__law_kinds.nd rfl (Or.inl rfl))) (fun _ _ _ _ _ => by exact pts_nil) (fun _ _ _ _ _ => by exact (C8.pe_c c__law_wholes hr (by decide) (by rfl) (pa_cons (pv 6) (pa_cons (pe_op op_add (pv 2) pe_int) pa_nil))))) pa_nil)))))))), ?_⟩
  obtain ⟨t, m, n, c, w, g, rfl, hm, hn, ht, G, hw, hwl, q⟩ := h
  obtain ⟨at', xt, rfl, hst, hdt⟩ := dp_tup ht
  cases hdt with
  | cons hc hdt =>
  cases hdt with
  | cons hway hdt =>
  cases hdt with
  | cons hpap hdt =>
  cases hdt
  have ec := dp_int hc
  subst ec
  obtain ⟨aw, xw, rfl, hsw, hdw⟩ := dp_tup hway
  obtain ⟨ag, xg, rfl, hsg, hdg⟩ := dp_tup hpap
  have hgl : xg.length = m + 1 := by rw [dpa_len hdg, List.length_map, G.rows]
  refine ⟨_, rfl, _, _, _, _, true, rfl, .ty _, ty_tup hst, k_tt, _, rfl, iteF ⟨_, rfl, at', _, rfl, .inr hst, rfl, _, rfl, iteF ?_⟩⟩
  refine ⟨_, rfl, _, _, _, _, rfl, rfl, hst, atI_nat (j := 0) rfl, c, rfl, fun H1 s1 => ⟨_, rfl, iteF ⟨_, rfl, _, _, _, _, rfl, rfl, sqT_mono s1 hst, atI_nat (j := 1) rfl, _, _, _, _, true, rfl, .ty _, ty_tup (sqT_mono s1 hsw), k_tt, _, rfl, iteF ?_⟩⟩⟩
  refine ⟨_, rfl, _, _, _, _, rfl, rfl, sqT_mono s1 hst, atI_nat (j := 1) rfl, aw, rfl, ⟨_, sqT_mono s1 hsw⟩, for_tup (K := K) (a := aw) (xs := xw) (fun t σ H' => ∃ y3 y4 y5, σ = [some (.ref at'), some (.int (m : Int)), some (.int (n : Int)), y3, y4, y5, none] ∧ Same H H') ⟨none, none, none, rfl, s1⟩ (fun t σ H' _ ⟨_, _, _, _, s⟩ => sqT_mono s hsw) ?_ ?_⟩
  · rintro t x σ H2 hx ⟨y3, y4, y5, rfl, s2⟩
    obtain ⟨d, hd1, hdx⟩ := dpa_of hdw hx
    obtain ⟨st, hst', rfl⟩ := map_at hd1
    obtain ⟨h2, h3⟩ := hw st (List.mem_of_getElem? hst')
    obtain ⟨as, xs, rfl, hss, hds⟩ := dp_tup hdx
    refine ⟨_, rfl, _, _, _, _, true, rfl, .ty _, ty_tup (sqT_mono s2 hss), k_tt, _, rfl, iteF ?_⟩
    refine ⟨_, rfl, as, rfl, ⟨_, sqT_mono s2 hss⟩, for_tup (K := K) (a := as) (xs := xs) (fun t σ H' => ∃ y4 y5, σ = [some (.ref at'), some (.int (m : Int)), some (.int (n : Int)), some (.ref as), y4, y5, none] ∧ Same H H') ⟨y4, y5, rfl, s2⟩ (fun t σ H' _ ⟨_, _, _, s⟩ => sqT_mono s hss) ?_ ?_⟩
    · clear s2
      rintro t2 x2 σ H3 hx2 ⟨y4, y5, rfl, s3⟩
      obtain ⟨d2, hd2, hdx2⟩ := dpa_of hds hx2
      obtain ⟨l, hll, rfl⟩ := map_at hd2
      obtain ⟨l1, l2⟩ := h3 l (List.mem_of_getElem? hll)
      obtain ⟨al, xl, rfl, hsl, hdl⟩ := dp_tup hdx2
      have hxl2 : xl.length = 2 := dpa_len hdl
      refine ⟨_, rfl, _, _, _, _, true, rfl, .ty _, ty_tup (sqT_mono s3 hsl), k_tt, _, rfl, iteF ⟨_, rfl, al, _, rfl, .inr (sqT_mono s3 hsl), rfl, _, rfl, ?_⟩⟩
      rw [hxl2]
      refine iteF ⟨_, rfl, al, rfl, ⟨_, sqT_mono s3 hsl⟩, for_tup (K := K) (a := al) (xs := xl) (fun t σ H' => ∃ y5, σ = [some (.ref at'), some (.int (m : Int)), some (.int (n : Int)), some (.ref as), some (.ref al), y5, none] ∧ Same H H') ⟨y5, rfl, s3⟩ (fun t σ H' _ ⟨_, _, s⟩ => sqT_mono s hsl) ?_ ?_⟩
      · clear s3
        rintro t3 x3 σ H4 hx3 ⟨y5, rfl, s4⟩
        obtain ⟨d3, hd3, hdx3⟩ := dpa_of hdl hx3
        have hint : ∃ ns : List Int, d3 = .tuple (ns.map .int) ∧ ns.length ≤ 3 := by
          have hm3 : d3 ∈ [tN l.1, tN l.2] := List.mem_of_getElem? hd3
          simp only [List.mem_cons, List.not_mem_nil, or_false] at hm3
          rcases hm3 with e | e
          · exact ⟨_, by rw [e, tN_int], by rw [List.length_map]; exact l1⟩
          · exact ⟨_, by rw [e, tN_int], by rw [List.length_map]; exact l2⟩
        obtain ⟨ns, rfl, hnl⟩ := hint
        obtain ⟨an, rfl, hsn⟩ := dp_ints hdx3
        refine ⟨_, rfl, _, _, _, _, true, rfl, .ty _, ty_tup (sqT_mono s4 hsn), k_tt, _, rfl, iteF ⟨_, rfl, _, rfl, an, _, rfl, .inr (sqT_mono s4 hsn), .ref an, ns, _, rfl, dp_up hdx3 s4, by rw [List.length_map], by omega, fun H5 s5 => ⟨_, rfl, iteF ⟨_, rfl, s4.trans s5⟩⟩⟩⟩
      · rintro σ H4 ⟨y5, rfl, s4⟩
        exact ⟨_, _, rfl, s4⟩
    · rintro σ H3 ⟨y4, y5, rfl, s3⟩
      exact ⟨_, _, _, rfl, s3⟩
  · rintro σ H2 ⟨y3, y4, y5, rfl, s2⟩
    refine ⟨_, rfl, _, _, _, _, rfl, rfl, sqT_mono s2 hst, atI_nat (j := 2) rfl, _, _, _, _, true, rfl, .ty _, ty_tup (sqT_mono s2 hsg), k_tt, _, rfl, iteF ⟨_, rfl, _, _, _, _, rfl, rfl, sqT_mono s2 hst, atI_nat (j := 2) rfl, ag, _, rfl, .inr (sqT_mono s2 hsg), _, rfl, _, _, rfl, rfl, rfl, _, rfl, ?_⟩⟩
    rw [hgl, decide_eq_true (show V.int ((m + 1 : Nat) : Int) = V.int ((m : Int) + 1) from by rw [Int.natCast_add]; rfl)]
    refine iteF ⟨_, rfl, _, _, _, _, rfl, rfl, sqT_mono s2 hst, atI_nat (j := 2) rfl, ag, rfl, ⟨_, sqT_mono s2 hsg⟩, fun D hD => lcT_map (K := K) (sqT_mono s2 hsg) ((g.map fun _ => true).map .bool) (by rw [List.length_map, List.length_map, hgl, G.rows]) hD (lt_line (by omega)) ?_ ?_⟩
    · intro k x e H3 hx he s3 Q' q'
      obtain ⟨d, hd1, hdx⟩ := dpa_of hdg hx
      obtain ⟨row, hrow, rfl⟩ := map_at hd1
      obtain ⟨b, hb, rfl⟩ := map_at he
      obtain ⟨i', hi', rfl⟩ := map_at hb
      have hl := G.cols row (List.mem_of_getElem? hrow)
      exact ⟨rfl, _, rfl, _, rfl, _, _, rfl, rfl, x, row, _, rfl, dp_up hdx (s2.trans s3), by rw [hl, Int.natCast_add]; rfl, by omega, fun H4 s4 => q' _ _ s4 (.bl _)⟩
    · intro H3 s3 d3
      refine ⟨D, _, rfl, sqL_ofB d3, ?_⟩
      rw [show ((g.map fun _ => true).all id) = true by simp]
      exact q H3 (s2.trans s3)
end
end Tk
namespace Tk
open PySem PySem.Spec PyProof.Rows L2
open SX (S)

section
variable {P : Program} {w : World} {K : PySem.W.Frag} {mg : Str → Option Value} {base : Heap} {C SH : Addr}

theorem sc_law : FnScope ["_law_script", "_law_pot", "_law_most", "_law_more", "_law_ones", "_law_others", "_law_known_here", "_law_prices_here", "_law_m", "_law_n", "_law_sides_here", "_law_told", "_law_cost", "_law_way", "_law_paper", "_law_turn", "_law_other", "_law_paid_here", "_law_shown"] ["_law_script"] (defScope (topS 49)) := ⟨rfl, rfl, rfl, by decide +kernel, rfl, by decide +kernel, by decide +kernel⟩
theorem bn_law : Bnd "law" "law" (topS 49) ["_law_script"] := fun _ _ _ _ _ _ us hl => match us, hl with | [_], _ => rfl
def sp_law (K : PySem.W.Frag) (C : Addr) : Sp := fun vs H Q _ => ∃ (a : Addr) (ns : List Int), vs = [.ref a] ∧ SqL K H a (ns.map V.int) ∧ ∀ H', Q (.bl true) H'
theorem papr_grd {m n : Nat} {g : List (List Int)} (G : Grd m n g) : Grd m n (papr g) := by
  refine ⟨by unfold papr; rw [List.length_map]; exact G.rows, fun r hr => ?_⟩
  unfold papr at hr
  obtain ⟨row, hrow, rfl⟩ := List.mem_map.mp hr
  rw [List.length_map]
  exact G.cols row hrow
theorem papr_gv {m n i j : Nat} {g : List (List Int)} (G : Grd m n g) (hi : i ≤ m) (hj : j ≤ n) : gv (papr g) i j = gv g 0 0 - gv g i j := by
  obtain ⟨row, hr, hl⟩ := grd_row G hi
  have e : (papr g).getD i [] = row.map fun x => gv g 0 0 - x := getD_of (by unfold papr; rw [List.getElem?_map, hr]; rfl)
  have e2 : gv g i j = row.getD j 0 := by
    show (g.getD i []).getD j 0 = _
    rw [getD_of hr]
  have hjl : j < row.length := by omega
  rw [e2]
  show ((papr g).getD i []).getD j 0 = _
  rw [e, List.getD_eq_getElem?_getD, List.getElem?_map, List.getElem?_eq_getElem hjl, List.getD_eq_getElem?_getD, List.getElem?_eq_getElem hjl]
  rfl
theorem papr_ups {P : Prc} {m n : Nat} {g : List (List Int)} (G : GridOk P m n g) : Ups P m n (papr g) := fun i j s hi hj hs => by
  obtain ⟨h1, h2, h3, h4, h5⟩ := endP_le hs hi hj
  rw [papr_gv G.gr h2 h4, papr_gv G.gr hi hj]
  have := (G.b i j hi hj).le s hs
  omega
def mosts : List (Nat × Nat) := [(5, 5), (5, 5), (5, 5), (5, 5), (7, 7), (9, 9), (5, 9), (14, 24)]
theorem mosts_ok : ∀ q ∈ mosts, q.1 ≤ 24 ∧ q.2 ≤ 24 := by decide +kernel
structure Dat (K : PySem.W.Frag) (p : Addr) (P : Prc) (g : List (List Int)) (v1 v2 v3 v4 vs vp : V) (H : Hp) : Prop where
  a : Dp K (ex (one p) H) v1 (txsD P.ones)
  b : Dp K (ex (one p) H) v2 (txsD P.others)
  c : Dp K (ex (one p) H) v3 (knD P)
  d : Dp K (ex (one p) H) v4 (prsD P)
  s : Dp K (ex (one p) H) vs (sidesD P)
  g : Dp K (ex (one p) H) vp (pD (papr g))
theorem Dat.kp {K : PySem.W.Frag} {p : Addr} {P : Prc} {g : List (List Int)} {v1 v2 v3 v4 vs vp : V} {H H' : Hp} (D : Dat K p P g v1 v2 v3 v4 vs vp H) (k : Kp (one p) H H') : Dat K p P g v1 v2 v3 v4 vs vp H' :=
  ⟨dp_up D.a k.ex, dp_up D.b k.ex, dp_up D.c k.ex, dp_up D.d k.ex, dp_up D.s k.ex, dp_up D.g k.ex⟩
theorem start_law (v : V) : L2.start ["_law_script", "_law_pot", "_law_most", "_law_more", "_law_ones", "_law_others", "_law_known_here", "_law_prices_here", "_law_m", "_law_n", "_law_sides_here", "_law_told", "_law_cost", "_law_way", "_law_paper", "_law_turn", "_law_other", "_law_paid_here", "_law_shown"] [v] = [some v, none, none, none, none, none, none, none, none, none, none, none, none, none, none, none, none, none, none] := rfl
theorem okD {x : Str} {st : Stmt} {N ps : List Str} {k : Nat} {sp : Sp} {f : Addr} {fd : FuncData} (F : FunD K x x (defArgs st) (defBody st) (defScope st) [] [] f fd) (S : FnScope N ps (defScope st)) (len : ∀ vs H Q E, sp vs H Q E → vs.length = ps.length)
    (hbody : ∀ (cdv : Value) (A : Around) (outer : List Env) (s : Shared) (H : Hp) (vs : List V) (Q : VK) (E : XK), Room k (A.deeper (envOfC x (defScope st) s.heap.objs.size f cdv)) → sp vs H Q E →
      ∃ t, PSs (cxOf C8.CX0 P w K mg base N x (defScope st) f cdv A outer s H E).nox (defBody st) t ∧ t { nx := fun _ H' => Q .non H', rt := Q } (start N vs) H) : FnOk P w K mg base C8.CX0 (k + 1) f fd ps sp :=
  F.ok S len fun cdv A outer s H vs Q E hr h => by
    obtain ⟨t, p, q⟩ := hbody cdv A outer s H vs Q E hr h
    exact ⟨t, PSs.nox p, q⟩
theorem ok_law (T : Txt K mg C SH) {f : Addr} {fd : FuncData} (F : FunD K "law" "law" (defArgs (topS 49)) (defBody (topS 49)) (defScope (topS 49)) [] [] f fd) : FnOk P w K mg base C8.CX0 8 f fd ["_law_script"] (sp_law K C) := by
  have c__law_any_way : C8.Cal P w K mg base 2 "_law_any_way" (sp__law_any_way K C) [] := Tk.c__law_any_way T
  have c__law_drawn : C8.Cal P w K mg base 4 "_law_drawn" (sp__law_drawn K C) [] := Tk.c__law_drawn T
  have c__law_grid_holds : C8.Cal P w K mg base 3 "_law_grid_holds" (sp__law_grid_holds K C) [] := Tk.c__law_grid_holds T
  have c__law_kinds : C8.Cal P w K mg base 3 "_law_kinds" (sp__law_kinds K C) [] := Tk.c__law_kinds T
  have c__law_next : C8.Cal P w K mg base 1 "_law_next" (sp__law_next K C) [] := Tk.c__law_next T
  have c__law_paid : C8.Cal P w K mg base 3 "_law_paid" (sp__law_paid K C) [] := Tk.c__law_paid T
  have c__law_sides : C8.Cal P w K mg base 2 "_law_sides" (sp__law_sides K C) [] := Tk.c__law_sides T
  have c__law_state : C8.Cal P w K mg base 1 "_law_state" (sp__law_state K C) [] := Tk.c__law_state T
  have c__law_through : C8.Cal P w K mg base 2 "_law_through" (sp__law_through K C) [] := Tk.c__law_through T
  have c_least_way : C8.Cal P w K mg base 7 "least_way" (sp_least_way K C) [] := Tk.c_least_way T
  have c_shows_found : C8.Cal P w K mg base 6 "shows_found" (sp_shows_found K C) [] := Tk.c_shows_found T
  refine okD F sc_law (fun vs H Q E h => by obtain ⟨_, _, rfl, _⟩ := h; rfl) (fun cdv A outer s H vs Q E hr h => ?_)
  refine ⟨_, (pss_cons (ps_set (i := 1) sc_law.nd rfl (Or.inl rfl) (C8.pe_c c__law_state hr (by decide) (by rfl) (pa_cons (pv 0) pa_nil)))
    (pss_cons (ps_asg (pe_ix (ix_listK K rfl) (pe_lst (pa_cons (pe_tup (pa_cons pe_int (pa_cons pe_int pa_nil))) (pa_cons (pe_tup (pa_cons pe_int (pa_cons pe_int pa_nil))) (pa_cons (pe_tup (pa_cons pe_int (pa_cons pe_int pa_nil))) (pa_cons (pe_tup (pa_cons pe_int (pa_cons pe_int pa_nil))) (pa_cons (pe_tup (pa_cons pe_int (pa_cons pe_int pa_nil))) (pa_cons (pe_tup (pa_cons pe_int (pa_cons pe_int pa_nil))) (pa_cons (pe_tup (pa_cons pe_int (pa_cons pe_int pa_nil))) (pa_cons (pe_tup (pa_cons pe_int (pa_cons pe_int pa_nil))) pa_nil))))))))) (C8.pe_c c__law_next hr (by decide) (by rfl) (pa_cons (pv 1) (pa_cons pe_int pa_nil))) (fun _ _ => rfl)) (pg_tupK K (n := 2) rfl rfl (pgs_cons (pg_name (i := 2) sc_law.nd rfl (Or.inl rfl)) (pgs_cons (pg_name (i := 3) sc_law.nd rfl (Or.inl rfl)) pgs_nil))))
    (pss_cons (ps_if (pt_cmpR op_eq (C8.pe_c c__law_next hr (by decide) (by rfl) (pa_cons (pv 1) (pa_cons pe_int pa_nil))) pe_int (nomark _)) (pss_one (ps_par (i := 2) (j := 3) rfl sc_law.nd rfl rfl (by decide) rfl rfl (pa_cons (pv 3) (pa_cons (pv 2) pa_nil)) (by rfl))) pss_nil)
    (pss_cons (ps_asg (C8.pe_c c__law_drawn hr (by decide) (by rfl) (pa_cons (pv 1) (pa_cons (pv 2) (pa_cons (pv 3) pa_nil)))) (pg_tupK K (n := 4) rfl rfl (pgs_cons (pg_name (i := 4) sc_law.nd rfl (Or.inl rfl)) (pgs_cons (pg_name (i := 5) sc_law.nd rfl (Or.inl rfl)) (pgs_cons (pg_name (i := 6) sc_law.nd rfl (Or.inl rfl)) (pgs_cons (pg_name (i := 7) sc_law.nd rfl (Or.inl rfl)) pgs_nil))))))
    (pss_cons (ps_par (i := 8) (j := 9) rfl sc_law.nd rfl rfl (by decide) rfl rfl (pa_cons (pe_callB (call_lenK K rfl) (by rfl) T.len (by decide +kernel) (pa_cons (pv 4) pa_nil)) (pa_cons (pe_callB (call_lenK K rfl) (by rfl) T.len (by decide +kernel) (pa_cons (pv 5) pa_nil)) pa_nil)) (by rfl))
    (pss_cons (ps_set (i := 10) sc_law.nd rfl (Or.inl rfl) (C8.pe_c c__law_sides hr (by decide) (by rfl) (pa_cons (pv 4) (pa_cons (pv 5) pa_nil))))
    (pss_cons (ps_set (i := 11) sc_law.nd rfl (Or.inl rfl) (C8.pe_c c_least_way hr (by decide) (by rfl) (pa_cons (pv 4) (pa_cons (pv 5) (pa_cons (pv 6) (pa_cons (pv 7) pa_nil))))))
    (pss_cons (ps_if (pt_not (pt_val (C8.pe_c c__law_kinds hr (by decide) (by rfl) (pa_cons (pv 11) (pa_cons (pv 8) (pa_cons (pv 9) pa_nil)))))) (pss_one (ps_ret pe_bl)) pss_nil)
    (pss_cons (ps_asg (pv 11) (pg_tupK K (n := 3) rfl rfl (pgs_cons (pg_name (i := 12) sc_law.nd rfl (Or.inl rfl)) (pgs_cons (pg_name (i := 13) sc_law.nd rfl (Or.inl rfl)) (pgs_cons (pg_name (i := 14) sc_law.nd rfl (Or.inl rfl)) pgs_nil)))))
    (pss_cons (ps_if (pt_not (pt_val (C8.pe_c c__law_through hr (by decide) (by rfl) (pa_cons (pv 13) (pa_cons (pv 8) (pa_cons (pv 9) pa_nil)))))) (pss_one (ps_ret pe_bl)) pss_nil)
    (pss_cons (ps_if (pt_cmpR op_ne (C8.pe_c c__law_paid hr (by decide) (by rfl) (pa_cons (pv 10) (pa_cons (pv 6) (pa_cons (pv 7) (pa_cons (pv 13) pa_nil))))) (pv 12) (nomark _)) (pss_one (ps_ret pe_bl)) pss_nil)
    (pss_cons (ps_if (PW.pt (pw_or (pt_cmpR op_ne (pe_ix (ix_tupK K rfl) (pe_ix (ix_tupK K rfl) (pv 14) pe_int (fun _ _ => rfl)) pe_int (fun _ _ => rfl)) pe_int (nomark _)) (pw_or1 (pt_cmpR op_ne (pe_ix (ix_tupK K rfl) (pe_ix (ix_tupK K rfl) (pv 14) (pv 8) (fun _ _ => rfl)) (pv 9) (fun _ _ => rfl)) (pv 12) (nomark _))))) (pss_one (ps_ret pe_bl)) pss_nil)
    (pss_cons (ps_if (pt_not (pt_val (C8.pe_c c__law_grid_holds hr (by decide) (by rfl) (pa_cons (pv 10) (pa_cons (pv 6) (pa_cons (pv 7) (pa_cons (pv 8) (pa_cons (pv 9) (pa_cons (pv 14) pa_nil))))))))) (pss_one (ps_ret pe_bl)) pss_nil)
    (pss_cons (ps_if (pt_cmpR op_isnot_bl (C8.pe_c c_shows_found hr (by decide) (by rfl) (pa_cons (pv 4) (pa_cons (pv 5) (pa_cons (pv 6) (pa_cons (pv 7) (pa_cons (pv 11) pa_nil)))))) pe_bl (nomark _)) (pss_one (ps_ret pe_bl)) pss_nil)
    (pss_cons (ps_for PassesOwn.never rfl (pi_range1 (by rfl) T.range (pa_cons (pe_op op_sub pe_int (pe_callTy call_int1 (by rfl) T.int (by decide +kernel) (pa_cons (pe_cmpR op_gt (pe_op op_add (pv 8) (pv 9)) pe_int (nomark _)) pa_nil))) pa_nil)) (pg_name (i := 15) sc_law.nd rfl (Or.inl rfl))
      (pss_cons (ps_set (i := 16) sc_law.nd rfl (Or.inl rfl) (C8.pe_c c__law_any_way hr (by decide) (by rfl) (pa_cons (pv 1) (pa_cons (pv 8) (pa_cons (pv 9) pa_nil)))))
      (pss_cons (ps_set (i := 17) sc_law.nd rfl (Or.inl rfl) (C8.pe_c c__law_paid hr (by decide) (by rfl) (pa_cons (pv 10) (pa_cons (pv 6) (pa_cons (pv 7) (pa_cons (pv 16) pa_nil))))))
      (pss_cons (ps_if (pt_cmpR op_lt (pv 17) (pv 12) (nomark _)) (pss_one (ps_ret pe_bl)) pss_nil)
      (pss_cons (ps_set (i := 18) sc_law.nd rfl (Or.inl rfl) (C8.pe_c c_shows_found hr (by decide) (by rfl) (pa_cons (pv 4) (pa_cons (pv 5) (pa_cons (pv 6) (pa_cons (pv 7) (pa_cons (pe_tup (pa_cons (pv 17) (pa_cons (pv 16) (pa_cons (pv 14) pa_nil)))) pa_nil)))))))
      (pss_one (ps_if (PW.pt (pw_or (pt_not (pt_val (pe_callB (call_isiK' K rfl) (by rfl) T.isinstance (by decide +kernel) (pa_cons (pv 18) (pa_cons (pe_bltn (by rfl) T.bool (v := .ty "bool") (by decide +kernel) rfl) pa_nil))))) (pw_or1 (pt_cmpR op_ne (pv 18) (pe_cmpR op_eq (pv 17) (pv 12) (nomark _)) (nomark _))))) (pss_one (ps_ret pe_bl)) pss_nil)))))))
    (pss_one (ps_ret pe_bl))))))))))))))))), ?_⟩
  obtain ⟨a, ns, rfl, hS, q⟩ := h
  rw [start_law]
  refine ⟨_, rfl, a, ns, rfl, hS, fun p H1 s1 hp p1 => ?_⟩
  clear hS hp s1
  have D0 : DpAll K (nw H1 H1) [] [] := .nil
  have s0 : Same H1 H1 := Same.refl _
  refine ⟨le_line (by simp), fun t1 h1 => ?_⟩
  have D1 := dpa_snoc (dpa_up D0 (nw_ex (same_new (o := .tup [.int 5, .int 5]) h1))) (dp_newT (K := K) (xs := [.int 5, .int 5]) (ds := [.int 5, .int 5]) s0 h1 (.cons (.int 5) (.cons (.int 5) .nil)))
  have s1 := s0.trans (same_new (o := .tup [.int 5, .int 5]) h1)
  generalize upd H1 t1 (.tup [.int 5, .int 5]) = G1 at D1 s1
  clear D0 s0 h1
  refine ⟨le_line (by simp), fun t2 h2 => ?_⟩
  have D2 := dpa_snoc (dpa_up D1 (nw_ex (same_new (o := .tup [.int 5, .int 5]) h2))) (dp_newT (K := K) (xs := [.int 5, .int 5]) (ds := [.int 5, .int 5]) s1 h2 (.cons (.int 5) (.cons (.int 5) .nil)))
  have s2 := s1.trans (same_new (o := .tup [.int 5, .int 5]) h2)
  generalize upd G1 t2 (.tup [.int 5, .int 5]) = G2 at D2 s2
  clear D1 s1 h2
  refine ⟨le_line (by simp), fun t3 h3 => ?_⟩
  have D3 := dpa_snoc (dpa_up D2 (nw_ex (same_new (o := .tup [.int 5, .int 5]) h3))) (dp_newT (K := K) (xs := [.int 5, .int 5]) (ds := [.int 5, .int 5]) s2 h3 (.cons (.int 5) (.cons (.int 5) .nil)))
  have s3 := s2.trans (same_new (o := .tup [.int 5, .int 5]) h3)
  generalize upd G2 t3 (.tup [.int 5, .int 5]) = G3 at D3 s3
  clear D2 s2 h3
  refine ⟨le_line (by simp), fun t4 h4 => ?_⟩
  have D4 := dpa_snoc (dpa_up D3 (nw_ex (same_new (o := .tup [.int 5, .int 5]) h4))) (dp_newT (K := K) (xs := [.int 5, .int 5]) (ds := [.int 5, .int 5]) s3 h4 (.cons (.int 5) (.cons (.int 5) .nil)))
  have s4 := s3.trans (same_new (o := .tup [.int 5, .int 5]) h4)
  generalize upd G3 t4 (.tup [.int 5, .int 5]) = G4 at D4 s4
  clear D3 s3 h4
  refine ⟨le_line (by simp), fun t5 h5 => ?_⟩
  have D5 := dpa_snoc (dpa_up D4 (nw_ex (same_new (o := .tup [.int 7, .int 7]) h5))) (dp_newT (K := K) (xs := [.int 7, .int 7]) (ds := [.int 7, .int 7]) s4 h5 (.cons (.int 7) (.cons (.int 7) .nil)))
  have s5 := s4.trans (same_new (o := .tup [.int 7, .int 7]) h5)
  generalize upd G4 t5 (.tup [.int 7, .int 7]) = G5 at D5 s5
  clear D4 s4 h5
  refine ⟨le_line (by simp), fun t6 h6 => ?_⟩
  have D6 := dpa_snoc (dpa_up D5 (nw_ex (same_new (o := .tup [.int 9, .int 9]) h6))) (dp_newT (K := K) (xs := [.int 9, .int 9]) (ds := [.int 9, .int 9]) s5 h6 (.cons (.int 9) (.cons (.int 9) .nil)))
  have s6 := s5.trans (same_new (o := .tup [.int 9, .int 9]) h6)
  generalize upd G5 t6 (.tup [.int 9, .int 9]) = G6 at D6 s6
  clear D5 s5 h6
  refine ⟨le_line (by simp), fun t7 h7 => ?_⟩
  have D7 := dpa_snoc (dpa_up D6 (nw_ex (same_new (o := .tup [.int 5, .int 9]) h7))) (dp_newT (K := K) (xs := [.int 5, .int 9]) (ds := [.int 5, .int 9]) s6 h7 (.cons (.int 5) (.cons (.int 9) .nil)))
  have s7 := s6.trans (same_new (o := .tup [.int 5, .int 9]) h7)
  generalize upd G6 t7 (.tup [.int 5, .int 9]) = G7 at D7 s7
  clear D6 s6 h7
  refine ⟨le_line (by simp), fun t8 h8 => ?_⟩
  have D8 := dpa_snoc (dpa_up D7 (nw_ex (same_new (o := .tup [.int 14, .int 24]) h8))) (dp_newT (K := K) (xs := [.int 14, .int 24]) (ds := [.int 14, .int 24]) s7 h8 (.cons (.int 14) (.cons (.int 24) .nil)))
  have s8 := s7.trans (same_new (o := .tup [.int 14, .int 24]) h8)
  generalize upd G7 t8 (.tup [.int 14, .int 24]) = G8 at D8 s8
  clear D7 s7 h8
  refine ⟨le_line (by simp), fun o ho => ⟨_, rfl, p, 8, rfl, pot_mono (s8.trans (same_new ho)) p1, by decide, by decide, fun d H2 hd k2 p2 => ?_⟩⟩
  have DL : Dp K (nw H1 (upd G8 o (.lst [.ref t1, .ref t2, .ref t3, .ref t4, .ref t5, .ref t6, .ref t7, .ref t8]))) (.ref o) (.list (mosts.map prD2)) := .lst (nw_new (s8.free ho) upd_same) (dpa_up D8 (nw_ex (same_new ho)))
  obtain ⟨xs, hxs, hdx⟩ := sq_lst (dp_up (dp_kp DL k2 (pot_some p1)) (ex_same _ _))
  clear DL D8 s8 k2 ho
  have hdl : d < mosts.length := hd
  obtain ⟨x, hx, hdx1⟩ := dpa_get (i := d) (d := prD2 mosts[d]) hdx (by rw [List.getElem?_map, List.getElem?_eq_getElem hdl]; rfl)
  have hmo := mosts_ok _ (List.getElem_mem hdl)
  generalize mosts[d] = q0 at hdx1 hmo
  obtain ⟨ma, mb⟩ := q0
  obtain ⟨hma, hmb⟩ := hmo
  dsimp only at hma hmb
  obtain ⟨b, u, v, rfl, hb, hu, hv⟩ := dp_pair hdx1
  have eu := dp_int hu
  have ev := dp_int hv
  subst eu ev
  refine ⟨_, _, _, _, rfl, rfl, hxs, atI_nat hx, b, _, rfl, hb, rfl, _, _, rfl, _, _, rfl, rfl, ?_⟩
  dsimp only [List.set]
  refine ⟨_, rfl, p, 2, rfl, p2, by decide, by decide, fun d3 H3 hd3 k3 p3 => ⟨rfl, _, rfl, ?_⟩⟩
  clear hxs hdx hx hdx1 hb p1 p2 k3 hu hv
  cases hd0 : decide (V.int (d3 : Int) = V.int 0) with
  | false =>
    refine iteF ?_
    dsimp only [List.set]
    refine ⟨_, rfl, _, rfl, _, rfl, p, _, _, rfl, p3, by omega, by omega, fun P v H4 k4 p4 okp d4 => ?_⟩
    obtain ⟨bt, xt, rfl, hbt, hdt⟩ := dp_tup d4
    cases hdt with
    | cons e1 hdt =>
    cases hdt with
    | cons e2 hdt =>
    cases hdt with
    | cons e3 hdt =>
    cases hdt with
    | cons e4 hdt =>
    cases hdt
    rename_i v1 v2 v3 v4
    have lo : Same (nw H3 H4) (ex (one p) H4) := ex_le _ (le_one (pot_some p3))
    refine ⟨bt, _, rfl, sqT_mono (ex_same _ _) hbt, rfl, _, _, rfl, _, _, rfl, _, _, rfl, _, _, rfl, rfl, ?_⟩
    have e1 := dp_up e1 lo
    have e2 := dp_up e2 lo
    have e3 := dp_up e3 lo
    have e4 := dp_up e4 lo
    clear hbt d4 lo k4 p3
    have f1 := dp_up e1 (ex_same _ _)
    have f2 := dp_up e2 (ex_same _ _)
    have f3 := dp_up e3 (ex_same _ _)
    have f4 := dp_up e4 (ex_same _ _)
    have n1 := okp.n1
    have n2 := okp.n2
    obtain ⟨a1, x1, rfl, hs1, hd1⟩ := dp_tup f1
    obtain ⟨a2, x2, rfl, hs2, hd2⟩ := dp_tup f2
    have l1 : x1.length = P.ones.length := by rw [dpa_len hd1, List.length_map]
    have l2 : x2.length = P.others.length := by rw [dpa_len hd2, List.length_map]
    dsimp only [List.set]
    refine ⟨_, rfl, a1, _, rfl, .inr hs1, _, rfl, a2, _, rfl, .inr hs2, _, _, rfl, ?_⟩
    rw [l1, l2]
    dsimp only [List.set]
    refine ⟨_, rfl, _, rfl, _, _, P, rfl, okp, f1, f2, fun vs H5 s5 d5 => ?_⟩
    refine ⟨_, rfl, _, rfl, _, rfl, _, rfl, _, _, _, _, P, rfl, okp, dp_up f1 s5, dp_up f2 s5, dp_up f3 s5, dp_up f4 s5, fun g way vt H6 GO hpath hcost s6 d6 => ?_⟩
    have s56 := s5.trans s6
    have s46 : Kp (one p) H4 H6 := .of s56
    have h00 : gv (papr g) 0 0 = 0 := by rw [papr_gv GO.gr (Nat.zero_le _) (Nat.zero_le _)]; omega
    have hmn0 := best_end (GO.b _ _ (Nat.le_refl _) (Nat.le_refl _))
    have hmn : gv (papr g) P.ones.length P.others.length = gv g 0 0 := by rw [papr_gv GO.gr (Nat.le_refl _) (Nat.le_refl _), hmn0]; omega
    have Gp := papr_grd GO.gr
    have Up := papr_ups GO
    have d6l := dp_up d6 (ex_le H6 (le_one ((same_dm s5) p (pot_some p4))))
    have d5l := dp_up (dp_up d5 (ex_le H5 (le_one (pot_some p4)))) (Kp.of (S := one p) s6).ex
    obtain ⟨b6, x6, rfl, hb6, hd6⟩ := dp_tup d6l
    cases hd6 with
    | cons w1 hd6 =>
    cases hd6 with
    | cons w2 hd6 =>
    cases hd6 with
    | cons w3 hd6 =>
    cases hd6
    have ew := dp_int w1
    subst ew
    rename_i vw vp
    have DA : Dat K p P g (.ref a1) (.ref a2) v3 v4 vs vp H6 := ⟨dp_up e1 s46.ex, dp_up e2 s46.ex, dp_up e3 s46.ex, dp_up e4 s46.ex, d5l, w3⟩
    have hsm : ∀ s ∈ way, sml3 s := fun s hs => by
      obtain ⟨k1, l1, hmem, _, _⟩ := path_st hpath (Nat.zero_le _) (Nat.zero_le _) s hs
      exact stp_sml hmem
    have hwl := seg_len (path_seg hpath) (Nat.zero_le _) (Nat.zero_le _)
    have p6 := pot_mono s56 p4
    have d6H := dp_up d6 (ex_same _ _)
    have w2H := dp_up w2 (ex_same _ _)
    clear e1 e2 e3 e4 f1 f2 f3 f4 hs1 hs2 hd1 hd2 d5 d5l d6 d6l w3 s5 s6 s56 s46 p4
    dsimp only [List.set]
    refine ⟨_, rfl, _, rfl, _, rfl, .ref b6, _, _, _, way, papr g, rfl, n1, n2, d6H, Gp, hsm, by omega, fun H7 s7 => ⟨_, rfl, iteF ?_⟩⟩
    refine ⟨_, rfl, b6, _, rfl, sqT_mono ((ex_same _ _).trans s7) hb6, rfl, _, _, rfl, _, _, rfl, _, _, rfl, rfl, ?_⟩
    dsimp only [List.set]
    refine ⟨_, rfl, _, rfl, _, rfl, vw, _, _, way, rfl, n1, n2, dp_up w2H s7, hpath, fun H8 s8 => ⟨_, rfl, iteF ?_⟩⟩
    have s68 := s7.trans s8
    have DA8 := DA.kp (.of s68)
    have lc8 : lawC K H8 P vs v3 v4 := ⟨okp, dp_up DA8.s (ex_same _ _), dp_up DA8.c (ex_same _ _), dp_up DA8.d (ex_same _ _)⟩
    refine ⟨_, rfl, _, rfl, _, rfl, _, rfl, vs, v3, v4, vw, P, way, rfl, lc8, dp_up w2H s68, hpath, fun H9 s9 => ⟨_, rfl, rfl, _, rfl, ?_⟩⟩
    rw [hcost, decide_eq_true rfl]
    refine iteF ?_
    have s69 := s68.trans s9
    have DA9 := DA.kp (.of s69)
    have gp9 := dp_up DA9.g (ex_same _ _)
    obtain ⟨r, rows, c, cells, rfl, hrs, hra, hcs, hca⟩ := pgrd_at gp9 Gp (Nat.zero_le _) (Nat.zero_le _)
    obtain ⟨r', rows', c', cells', e, hrs', hra', hcs', hca'⟩ := pgrd_at gp9 Gp (Nat.le_refl _) (Nat.le_refl _)
    cases e
    refine ⟨_, rfl, _, _, _, _, rfl, rfl, hrs, atI_nat (j := 0) hra, _, _, _, _, rfl, rfl, hcs, atI_nat (j := 0) hca, rfl, _, rfl, ?_⟩
    rw [h00, decide_eq_true rfl]
    refine iteF ⟨_, rfl, _, rfl, _, _, _, _, rfl, rfl, hrs', atI_nat hra', _, rfl, _, _, _, _, rfl, rfl, hcs', atI_nat hca', _, rfl, rfl, _, rfl, ?_⟩
    rw [hmn, decide_eq_true rfl]
    refine iteF ?_
    refine ⟨_, rfl, _, rfl, _, rfl, _, rfl, _, rfl, _, rfl, vs, v3, v4, _, P, _, _, papr g, rfl, lawC_mono s9 lc8, rfl, rfl, gp9, Gp, Up, fun H10 s10 => ⟨_, rfl, iteF ?_⟩⟩
    have s610 := s69.trans s10
    have DA10 := DA.kp (.of s610)
    refine ⟨_, rfl, _, rfl, _, rfl, _, rfl, _, rfl, _, _, _, _, _, P, way, papr g, rfl, okp, dp_up DA10.a (ex_same _ _), dp_up DA10.b (ex_same _ _), dp_up DA10.c (ex_same _ _), dp_up DA10.d (ex_same _ _), by rw [hcost]; exact dp_up d6H s610, hpath, Gp, Up, h00, fun H11 s11 => ⟨_, _, rfl, rfl, _, rfl, ?_⟩⟩
    rw [decide_eq_true (show gv (papr g) P.ones.length P.others.length = wayC P way by rw [hmn, hcost]), decide_eq_true rfl]
    refine iteF ?_
    have s611 := s610.trans s11
    have DA11 := DA.kp (.of s611)
    have p11 := pot_mono s611 p6
    clear DA8 DA9 DA10 lc8 gp9 hrs hra hcs hca hrs' hra' hcs' hca' DA s7 s8 s9 s10 s11 s68 s69 s610 s611 d6H w2H w2 hb6 p6
    refine ⟨_, rfl, _, rfl, _, _, rfl, rfl, _, _, rfl, rfl, .inr ⟨_, rfl, _, _, rfl, rfl, _, rfl, by split <;> decide, by split <;> decide, for_range (fun t σ H' => ∃ y15 y16 y17 y18 ymost ymore, σ = [some (.ref a), some (.ref p), ymost, ymore, some (.ref a1), some (.ref a2), some v3, some v4, some (.int (P.ones.length : Int)), some (.int (P.others.length : Int)), some vs, some (.ref b6), some (.int (gv g 0 0)), some vw, some (.ref r), y15, y16, y17, y18] ∧ Pot H' p ∧ Dat K p P g (.ref a1) (.ref a2) v3 v4 vs (.ref r) H') ⟨none, none, none, none, _, _, rfl, p11, DA11⟩ ?_ ?_⟩⟩
    · clear p11 DA11
      rintro t σ H12 ht ⟨y15, y16, y17, y18, ymost, ymore, rfl, p12, D12⟩
      refine ⟨_, rfl, _, rfl, _, rfl, p, _, _, rfl, p12, n1, n2, fun w2 vw2 H13 k13 p13 hpath2 d13 => ?_⟩
      have D13 := D12.kp k13
      have w13 := dp_up d13 (ex_le H13 (le_one (pot_some p12)))
      have lc13 : lawC K H13 P vs v3 v4 := ⟨okp, dp_up D13.s (ex_same _ _), dp_up D13.c (ex_same _ _), dp_up D13.d (ex_same _ _)⟩
      dsimp only [List.set]
      refine ⟨_, rfl, _, rfl, _, rfl, _, rfl, vs, v3, v4, vw2, P, w2, rfl, lc13, dp_up w13 (ex_same _ _), hpath2, fun H14 s14 => ?_⟩
      have hle := path_least GO.b (Nat.zero_le _) (Nat.zero_le _) hpath2
      dsimp only [List.set]
      refine ⟨_, rfl, _, rfl, _, _, rfl, rfl, _, rfl, ?_⟩
      rw [decide_eq_false (by omega)]
      have D14 := D13.kp (.of s14)
      refine iteF ⟨_, rfl, _, rfl, _, rfl, _, rfl, _, rfl, _, rfl, _, rfl, le_line (by simp), fun z hz => ?_⟩
      have D15 := D14.kp (.new (o := .tup [.int (wayC P w2), vw2, .ref r]) hz)
      have sz := same_new (o := .tup [.int (wayC P w2), vw2, .ref r]) hz
      refine ⟨_, _, _, _, _, P, w2, papr g, rfl, okp, dp_up D15.a (ex_same _ _), dp_up D15.b (ex_same _ _), dp_up D15.c (ex_same _ _), dp_up D15.d (ex_same _ _), .tup (SqT.of upd_same) (.cons (.int _) (.cons (dp_up w13 ((ex_same _ _).trans (s14.trans sz))) (.cons (dp_up D15.g (ex_same _ _)) .nil))), hpath2, Gp, Up, h00, fun H16 s16 => ?_⟩
      refine ⟨_, rfl, _, _, _, _, true, rfl, .ty _, .base (.bl _), k_bb, _, rfl, iteF ⟨_, rfl, _, rfl, _, rfl, rfl, rfl, _, rfl, ?_⟩⟩
      have eb : decide (gv (papr g) P.ones.length P.others.length = wayC P w2) = decide (V.int (wayC P w2) = V.int (gv g 0 0)) := by
        rw [hmn]
        exact decide_eq_decide.mpr ⟨fun e => by rw [e], fun e => by injection e with e; exact e.symm⟩
      rw [eb, decide_eq_true rfl]
      exact iteF ⟨_, _, _, _, _, _, rfl, pot_mono (s14.trans (sz.trans s16)) p13, D15.kp (.of s16)⟩
    · rintro σ H12 ⟨y15, y16, y17, y18, ymost, ymore, rfl, p12, D12⟩
      exact q H12
  | true =>
    refine iteT ⟨_, rfl, _, rfl, _, _, rfl, ?_⟩
    dsimp only [List.set]
    refine ⟨_, rfl, _, rfl, _, rfl, p, _, _, rfl, p3, by omega, by omega, fun P v H4 k4 p4 okp d4 => ?_⟩
    obtain ⟨bt, xt, rfl, hbt, hdt⟩ := dp_tup d4
    cases hdt with
    | cons e1 hdt =>
    cases hdt with
    | cons e2 hdt =>
    cases hdt with
    | cons e3 hdt =>
    cases hdt with
    | cons e4 hdt =>
    cases hdt
    rename_i v1 v2 v3 v4
    have lo : Same (nw H3 H4) (ex (one p) H4) := ex_le _ (le_one (pot_some p3))
    refine ⟨bt, _, rfl, sqT_mono (ex_same _ _) hbt, rfl, _, _, rfl, _, _, rfl, _, _, rfl, _, _, rfl, rfl, ?_⟩
    have e1 := dp_up e1 lo
    have e2 := dp_up e2 lo
    have e3 := dp_up e3 lo
    have e4 := dp_up e4 lo
    clear hbt d4 lo k4 p3
    have f1 := dp_up e1 (ex_same _ _)
    have f2 := dp_up e2 (ex_same _ _)
    have f3 := dp_up e3 (ex_same _ _)
    have f4 := dp_up e4 (ex_same _ _)
    have n1 := okp.n1
    have n2 := okp.n2
    obtain ⟨a1, x1, rfl, hs1, hd1⟩ := dp_tup f1
    obtain ⟨a2, x2, rfl, hs2, hd2⟩ := dp_tup f2
    have l1 : x1.length = P.ones.length := by rw [dpa_len hd1, List.length_map]
    have l2 : x2.length = P.others.length := by rw [dpa_len hd2, List.length_map]
    dsimp only [List.set]
    refine ⟨_, rfl, a1, _, rfl, .inr hs1, _, rfl, a2, _, rfl, .inr hs2, _, _, rfl, ?_⟩
    rw [l1, l2]
    dsimp only [List.set]
    refine ⟨_, rfl, _, rfl, _, _, P, rfl, okp, f1, f2, fun vs H5 s5 d5 => ?_⟩
    refine ⟨_, rfl, _, rfl, _, rfl, _, rfl, _, _, _, _, P, rfl, okp, dp_up f1 s5, dp_up f2 s5, dp_up f3 s5, dp_up f4 s5, fun g way vt H6 GO hpath hcost s6 d6 => ?_⟩
    have s56 := s5.trans s6
    have s46 : Kp (one p) H4 H6 := .of s56
    have h00 : gv (papr g) 0 0 = 0 := by rw [papr_gv GO.gr (Nat.zero_le _) (Nat.zero_le _)]; omega
    have hmn0 := best_end (GO.b _ _ (Nat.le_refl _) (Nat.le_refl _))
    have hmn : gv (papr g) P.ones.length P.others.length = gv g 0 0 := by rw [papr_gv GO.gr (Nat.le_refl _) (Nat.le_refl _), hmn0]; omega
    have Gp := papr_grd GO.gr
    have Up := papr_ups GO
    have d6l := dp_up d6 (ex_le H6 (le_one ((same_dm s5) p (pot_some p4))))
    have d5l := dp_up (dp_up d5 (ex_le H5 (le_one (pot_some p4)))) (Kp.of (S := one p) s6).ex
    obtain ⟨b6, x6, rfl, hb6, hd6⟩ := dp_tup d6l
    cases hd6 with
    | cons w1 hd6 =>
    cases hd6 with
    | cons w2 hd6 =>
    cases hd6 with
    | cons w3 hd6 =>
    cases hd6
    have ew := dp_int w1
    subst ew
    rename_i vw vp
    have DA : Dat K p P g (.ref a1) (.ref a2) v3 v4 vs vp H6 := ⟨dp_up e1 s46.ex, dp_up e2 s46.ex, dp_up e3 s46.ex, dp_up e4 s46.ex, d5l, w3⟩
    have hsm : ∀ s ∈ way, sml3 s := fun s hs => by
      obtain ⟨k1, l1, hmem, _, _⟩ := path_st hpath (Nat.zero_le _) (Nat.zero_le _) s hs
      exact stp_sml hmem
    have hwl := seg_len (path_seg hpath) (Nat.zero_le _) (Nat.zero_le _)
    have p6 := pot_mono s56 p4
    have d6H := dp_up d6 (ex_same _ _)
    have w2H := dp_up w2 (ex_same _ _)
    clear e1 e2 e3 e4 f1 f2 f3 f4 hs1 hs2 hd1 hd2 d5 d5l d6 d6l w3 s5 s6 s56 s46 p4
    dsimp only [List.set]
    refine ⟨_, rfl, _, rfl, _, rfl, .ref b6, _, _, _, way, papr g, rfl, n1, n2, d6H, Gp, hsm, by omega, fun H7 s7 => ⟨_, rfl, iteF ?_⟩⟩
    refine ⟨_, rfl, b6, _, rfl, sqT_mono ((ex_same _ _).trans s7) hb6, rfl, _, _, rfl, _, _, rfl, _, _, rfl, rfl, ?_⟩
    dsimp only [List.set]
    refine ⟨_, rfl, _, rfl, _, rfl, vw, _, _, way, rfl, n1, n2, dp_up w2H s7, hpath, fun H8 s8 => ⟨_, rfl, iteF ?_⟩⟩
    have s68 := s7.trans s8
    have DA8 := DA.kp (.of s68)
    have lc8 : lawC K H8 P vs v3 v4 := ⟨okp, dp_up DA8.s (ex_same _ _), dp_up DA8.c (ex_same _ _), dp_up DA8.d (ex_same _ _)⟩
    refine ⟨_, rfl, _, rfl, _, rfl, _, rfl, vs, v3, v4, vw, P, way, rfl, lc8, dp_up w2H s68, hpath, fun H9 s9 => ⟨_, rfl, rfl, _, rfl, ?_⟩⟩
    rw [hcost, decide_eq_true rfl]
    refine iteF ?_
    have s69 := s68.trans s9
    have DA9 := DA.kp (.of s69)
    have gp9 := dp_up DA9.g (ex_same _ _)
    obtain ⟨r, rows, c, cells, rfl, hrs, hra, hcs, hca⟩ := pgrd_at gp9 Gp (Nat.zero_le _) (Nat.zero_le _)
    obtain ⟨r', rows', c', cells', e, hrs', hra', hcs', hca'⟩ := pgrd_at gp9 Gp (Nat.le_refl _) (Nat.le_refl _)
    cases e
    refine ⟨_, rfl, _, _, _, _, rfl, rfl, hrs, atI_nat (j := 0) hra, _, _, _, _, rfl, rfl, hcs, atI_nat (j := 0) hca, rfl, _, rfl, ?_⟩
    rw [h00, decide_eq_true rfl]
    refine iteF ⟨_, rfl, _, rfl, _, _, _, _, rfl, rfl, hrs', atI_nat hra', _, rfl, _, _, _, _, rfl, rfl, hcs', atI_nat hca', _, rfl, rfl, _, rfl, ?_⟩
    rw [hmn, decide_eq_true rfl]
    refine iteF ?_
    refine ⟨_, rfl, _, rfl, _, rfl, _, rfl, _, rfl, _, rfl, vs, v3, v4, _, P, _, _, papr g, rfl, lawC_mono s9 lc8, rfl, rfl, gp9, Gp, Up, fun H10 s10 => ⟨_, rfl, iteF ?_⟩⟩
    have s610 := s69.trans s10
    have DA10 := DA.kp (.of s610)
    refine ⟨_, rfl, _, rfl, _, rfl, _, rfl, _, rfl, _, _, _, _, _, P, way, papr g, rfl, okp, dp_up DA10.a (ex_same _ _), dp_up DA10.b (ex_same _ _), dp_up DA10.c (ex_same _ _), dp_up DA10.d (ex_same _ _), by rw [hcost]; exact dp_up d6H s610, hpath, Gp, Up, h00, fun H11 s11 => ⟨_, _, rfl, rfl, _, rfl, ?_⟩⟩
    rw [decide_eq_true (show gv (papr g) P.ones.length P.others.length = wayC P way by rw [hmn, hcost]), decide_eq_true rfl]
    refine iteF ?_
    have s611 := s610.trans s11
    have DA11 := DA.kp (.of s611)
    have p11 := pot_mono s611 p6
    clear DA8 DA9 DA10 lc8 gp9 hrs hra hcs hca hrs' hra' hcs' hca' DA s7 s8 s9 s10 s11 s68 s69 s610 s611 d6H w2H w2 hb6 p6
    refine ⟨_, rfl, _, rfl, _, _, rfl, rfl, _, _, rfl, rfl, .inr ⟨_, rfl, _, _, rfl, rfl, _, rfl, by split <;> decide, by split <;> decide, for_range (fun t σ H' => ∃ y15 y16 y17 y18 ymost ymore, σ = [some (.ref a), some (.ref p), ymost, ymore, some (.ref a1), some (.ref a2), some v3, some v4, some (.int (P.ones.length : Int)), some (.int (P.others.length : Int)), some vs, some (.ref b6), some (.int (gv g 0 0)), some vw, some (.ref r), y15, y16, y17, y18] ∧ Pot H' p ∧ Dat K p P g (.ref a1) (.ref a2) v3 v4 vs (.ref r) H') ⟨none, none, none, none, _, _, rfl, p11, DA11⟩ ?_ ?_⟩⟩
    · clear p11 DA11
      rintro t σ H12 ht ⟨y15, y16, y17, y18, ymost, ymore, rfl, p12, D12⟩
      refine ⟨_, rfl, _, rfl, _, rfl, p, _, _, rfl, p12, n1, n2, fun w2 vw2 H13 k13 p13 hpath2 d13 => ?_⟩
      have D13 := D12.kp k13
      have w13 := dp_up d13 (ex_le H13 (le_one (pot_some p12)))
      have lc13 : lawC K H13 P vs v3 v4 := ⟨okp, dp_up D13.s (ex_same _ _), dp_up D13.c (ex_same _ _), dp_up D13.d (ex_same _ _)⟩
      dsimp only [List.set]
      refine ⟨_, rfl, _, rfl, _, rfl, _, rfl, vs, v3, v4, vw2, P, w2, rfl, lc13, dp_up w13 (ex_same _ _), hpath2, fun H14 s14 => ?_⟩
      have hle := path_least GO.b (Nat.zero_le _) (Nat.zero_le _) hpath2
      dsimp only [List.set]
      refine ⟨_, rfl, _, rfl, _, _, rfl, rfl, _, rfl, ?_⟩
      rw [decide_eq_false (by omega)]
      have D14 := D13.kp (.of s14)
      refine iteF ⟨_, rfl, _, rfl, _, rfl, _, rfl, _, rfl, _, rfl, _, rfl, le_line (by simp), fun z hz => ?_⟩
      have D15 := D14.kp (.new (o := .tup [.int (wayC P w2), vw2, .ref r]) hz)
      have sz := same_new (o := .tup [.int (wayC P w2), vw2, .ref r]) hz
      refine ⟨_, _, _, _, _, P, w2, papr g, rfl, okp, dp_up D15.a (ex_same _ _), dp_up D15.b (ex_same _ _), dp_up D15.c (ex_same _ _), dp_up D15.d (ex_same _ _), .tup (SqT.of upd_same) (.cons (.int _) (.cons (dp_up w13 ((ex_same _ _).trans (s14.trans sz))) (.cons (dp_up D15.g (ex_same _ _)) .nil))), hpath2, Gp, Up, h00, fun H16 s16 => ?_⟩
      refine ⟨_, rfl, _, _, _, _, true, rfl, .ty _, .base (.bl _), k_bb, _, rfl, iteF ⟨_, rfl, _, rfl, _, rfl, rfl, rfl, _, rfl, ?_⟩⟩
      have eb : decide (gv (papr g) P.ones.length P.others.length = wayC P w2) = decide (V.int (wayC P w2) = V.int (gv g 0 0)) := by
        rw [hmn]
        exact decide_eq_decide.mpr ⟨fun e => by rw [e], fun e => by injection e with e; exact e.symm⟩
      rw [eb, decide_eq_true rfl]
      exact iteF ⟨_, _, _, _, _, _, rfl, pot_mono (s14.trans (sz.trans s16)) p13, D15.kp (.of s16)⟩
    · rintro σ H12 ⟨y15, y16, y17, y18, ymost, ymore, rfl, p12, D12⟩
      exact q H12
end
end Tk
namespace Tk
open PySem PySem.Spec PyProof.Rows L2
theorem facts {P : Program} {w : World} {K : PySem.W.Frag} {h : Heap} {mg : Str → Option Value} {f : Addr} (X : K.In h) (G : h.Ns mainGlobals mg) (hfa : mg ("law" : Str) = some (.ref f)) (c : obsX fa fn K = (He.valD fn, true)) :
    ∃ fd : FuncData, (∀ (s : Shared) (v : Value), BindsTo s fd ⟨[v], []⟩ [("_law_script", v)]) ∧ ∀ base : Heap, K.In base → base.Ns mainGlobals mg → FnOk P w K mg base C8.CX0 8 f fd ["_law_script"] (sp_law K (He.ga K "Pricing")) := by
  have cd : He.SaysD fa fn K := congrArg Prod.fst c
  have T := txt_of X G c
  obtain ⟨fd, F⟩ := He.SaysD.def_ cd 42 rfl
  have e := hfa.symm.trans (He.glo_ok X G (cd.fact 65 rfl))
  cases e
  have F' : FunD K "law" "law" (defArgs (topS 49)) (defBody (topS 49)) (defScope (topS 49)) [] [] _ fd := F
  have b := FunD.bindsA (ps := ["_law_script"]) F' fun _ _ _ _ _ _ us hl => match us, hl with | [_], _ => rfl
  exact ⟨fd, fun s v => b s [v] rfl, fun base _ _ => ok_law T F'⟩
end Tk
open PySem PySem.W PySem.Calls PyProof.Rows
theorem PySem.Challenge.cw_twainkeep_k60_whole_no_way_costs_less_holds : PySem.Challenge.rw_twainkeep_k60_whole_no_way_costs_less.Holds := by
  w_on; o_law
  refine HandSHeadRun.head_any (r := OpenLaw.row PySem.Challenge.rw_twainkeep_k60_whole_no_way_costs_less) (q := view (OpenLaw.row PySem.Challenge.rw_twainkeep_k60_whole_no_way_costs_less).prog [49]) (H := Tk.hk) (ob := Tk.ob) (M := 4000) (loose := Tk.loose) (d := HandSHeadRun.topDef (OpenLaw.row PySem.Challenge.rw_twainkeep_k60_whole_no_way_costs_less).prog 49) (kwd := []) Tk.ob_eq
    (by kernel_rfl) (fun s => by kernel_rfl) Tk.run (by kernel_rfl) (by kernel_rfl) (by kernel_rfl) (by rfl) (by first | assumption | decide +kernel) (by decide +kernel) ⟨rfl, rfl, rfl, rfl, rfl, by decide +kernel⟩ ?hw ?hc
  case hw => w_witness2
  case hc =>
    refine L2.walk_ofE (l := PySem.Challenge.rw_twainkeep_k60_whole_no_way_costs_less) (n := 63) (k := 8) (x := "_law_script") (CX := C8.CX0) rfl (by decide) (by kernel_rfl) ⟨rfl, by decide, by decide⟩ ?F (fun _ _ _ _ z => z)
    intro w mg fa h Y G hmg0
    obtain ⟨K, KX, c⟩ := Y
    have hmg : mg ("law" : PySem.Str) = some (.ref fa) := by
      have e : (HandSHeadRun.topDef (OpenLaw.row PySem.Challenge.rw_twainkeep_k60_whole_no_way_costs_less).prog 49).name = ("law" : PySem.Str) := by kernel_rfl
      rw [← e]
      exact hmg0
    obtain ⟨fd, hb, hF⟩ := Tk.facts (P := (PySem.Challenge.rw_twainkeep_k60_whole_no_way_costs_less).prog) (w := w) KX G hmg c
    exact ⟨K, fd, Tk.sp_law K (He.ga K "Pricing"), KX, hb, fun H a ns hl _ hS => ⟨a, ns, rfl, hS, fun _ => rfl⟩, hF⟩
