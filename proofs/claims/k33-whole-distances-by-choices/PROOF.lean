import PyProof.Rows.All
import Wide.All
import OpenK.AllK
import Wide.FinOn
import HandS.ForMost
import HandS.EndBits
import HandS.EndTab
import HandS.NestedK
import KE.KNestM
import KE.SortData
import HandS.IsInst
import HandS.Deep
import HandS.DictComp
import HandS.TupAny
import HandS.SortKw
import HandS.Exc
import KE.SortKeyHeap
import HandS.SortInts
import HandS.SortRule
import HandS.SetFor
import HandS.Strs
import HandS.WordsDict
import KE.GoesEnum
import KE.KUnpackStar
import PyProof.Rows.StrMeet
import HandS.Conv
import HandS.Lambda
import HandS.More
import HandS.Zip
import KE.GoesEnumKw
import KE.KDictWalk
import PySem.Challenge.RW_joinedtrees_k33_whole_distances_by_choic
set_option Elab.async false
set_option linter.all false
set_option maxRecDepth 100000
set_option maxHeartbeats 4000000
/-! JB: the text by places, a def as a datum, its promise by name, heaps. -/
namespace JT
open PySem PySem.Spec PyProof.Rows L2
def topS (i : Nat) : Stmt := PySem.Challenge.pw_joinedtrees_k33_whole_distances_by_choic.main.body.getD i (.Pass ⟨0, 0, 0, 0⟩)
/-- the def st of its own name x stands behind the top at the global name g -/
structure Def (K : PySem.W.Frag) (mg : Str → Option Value) (g x : Str) (st : Stmt) : Prop where
  ex : ∃ (f : Addr) (fd : FuncData), Fun K x x st f fd ∧ mg g = some (.ref f)
/-- the def at the global name g keeps the promise sp -/
structure Cal (P : Program) (w : World) (K : PySem.W.Frag) (mg : Str → Option Value) (base : Heap) (k : Nat) (g : Str) (sp : Sp) : Prop where
  ex : ∃ (f : Addr) (fd : FuncData) (ps : List Str), FnOk P w K mg base CX0 k f fd ps sp ∧ mg g = some (.ref f) ∧ PySem.W.keepIn K (.ref f) = true ∧ Binds K fd ps []
section
variable {P : Program} {w : World} {K : PySem.W.Frag} {mg : Str → Option Value} {base : Heap} {k j : Nat} {g x : Str} {sp : Sp} {st : Stmt}
theorem Cal.mono (C : Cal P w K mg base j g sp) (h : j ≤ k) : Cal P w K mg base k g sp := by
  obtain ⟨f, fd, ps, F, a, b, c⟩ := C.ex
  exact ⟨f, fd, ps, F.mono h, a, b, c⟩
theorem Cal.imp {sp' : Sp} (C : Cal P w K mg base k g sp) (h : ∀ vs H Q E, sp' vs H Q E → sp vs H Q E) : Cal P w K mg base k g sp' := by
  obtain ⟨f, fd, ps, F, a, b, c⟩ := C.ex
  exact ⟨f, fd, ps, F.imp h, a, b, c⟩
abbrev cxB (P : Program) (w : World) (K : PySem.W.Frag) (mg : Str → Option Value) (base : Heap) (N : List Str) (x : Str) (sc : Scope) (f : Addr) (cdv : Value) (A : Around) (outer : List Env) (s : Shared) (H : Hp) : Cx :=
  (cxOf CX0 P w K mg base N x sc f cdv A outer s H E0).nox
theorem Def.cal {N ps : List Str} (D : Def K mg g x st) (S : FnScope N ps (defScope st))
    (hb : ∀ (kV doc pm : Value) (an : Option Addr) (cdv ct : Value) (us : List Value), us.length = ps.length → bindArgs (PySem.W.fnOf x x (defArgs st) (defBody st) (defScope st) .none kV doc pm an cdv ct) ⟨us, []⟩ = pure (ps.zip us))
    (len : ∀ vs H Q E, sp vs H Q E → vs.length = ps.length)
    (hbody : ∀ (f : Addr) (cdv : Value) (A : Around) (outer : List Env) (s : Shared) (H : Hp) (vs : List V) (Q : VK) (E : XK), Room k (A.deeper (envOfC x (defScope st) s.heap.objs.size f cdv)) → sp vs H Q E →
      ∃ t, PSs (cxOf CX0 P w K mg base N x (defScope st) f cdv A outer s H E).nox (defBody st) t ∧ t { nx := fun _ H' => Q .non H', rt := Q } (start N vs) H) : Cal P w K mg base (k + 1) g sp := by
  obtain ⟨f, fd, F, m⟩ := D.ex
  exact ⟨f, fd, ps, F.ok S len (hbody f), m, F.kp, F.binds hb⟩
end
section
variable {X : Cx} {k : Nat} {g : Str} {sp : Sp} {p pos : Pos} {e : Expr} {es : List Expr} {t : TA}
theorem pe_f (C : Cal X.prog X.w X.K X.mg X.base k g sp) (hr : Room k X.A) (hg : Gl X g) (ha : PA X (e :: es) t) (hdb : (g == ("__debug__" : Str)) = false := by decide)
    (he : starEach (e :: es) X.env = (false, eval e X.env) :: starEach es X.env := by rfl) (hpl : (backTo pos (starEach es X.env)).any (·.1) = false := by rfl) :
    PE X (.Call (.Name g p) (e :: es) [] pos) (tCall sp [] E0 t) := by
  refine ⟨fun pins s σ H Q I h => ?_⟩
  obtain ⟨f, fd, ps, F, m, kp, b⟩ := C.ex
  exact (pe_call F hr hg m kp b .nil pass0 ha hdb he hpl).run pins s σ H Q I h
end

/-! ### heaps -/
theorem same_upd {H : Hp} {p : Addr} {o : HO} (h : H p = none) : Same H (upd H p o) := fun b x e => by
  rw [upd_ne (ne_of_none e h)]
  exact e
theorem Same.tup {K : PySem.W.Frag} {H H' : Hp} {a : Addr} {xs : List V} (e : Same H H') (h : SqT K H a xs) : SqT K H' a xs := by
  rcases h with (h | ⟨o, h⟩) | h
  · exact .inl (.inl (e _ _ h))
  · exact .inl (.inr ⟨o, e _ _ h⟩)
  · exact .inr h
theorem small {n : Nat} (h : n ≤ 10000) : n ≤ sizeLine := Nat.le_trans h (by decide)
theorem smallT {n : Nat} (h : n ≤ 10000) : n < sizeLine := Nat.lt_of_le_of_lt h (by decide)
end JT
/-! RuLoop: name = {..}; loops over any walked thing. -/
namespace JT
open PySem PySem.Spec PyProof.Rows L2
section
variable {X : Cx}
theorem ps_setDc {i : Nat} {y : Str} {py : Pos} {kx vx tg iter : Expr} {ifs : List Expr} {scope : Scope} {own : List (Str × Nat)} {pos spos : Pos} {wi : TI} {g : TG} {tt : TT} {tk te : TE} (hc : X.calm = true) (hN : X.N.Nodup) (hy : X.N[i]? = some y) (hyl : X.env.scope.names.lookup y = some .local)
    (hsw : swapsWith (.DictComp kx vx [⟨tg, iter, ifs, 0⟩] scope pos) (some (.Name y py)) spos.line X.env = pure true) (hi : PI X tg iter wi) (ok : BlkOk X.N X.env.scope scope own)
    (hg : ∀ (s : Shared) (H : Hp) (C : Addr) (cl : List (Str × Addr)) (fp : List Addr), PG (X.blk s H scope (compEnvC scope cl C X.env) fp) tg g) (ht : ∀ (s : Shared) (H : Hp) (C : Addr) (cl : List (Str × Addr)) (fp : List Addr), PTs (X.blk s H scope (compEnvC scope cl C X.env) fp) ifs tt)
    (hk : ∀ (s : Shared) (H : Hp) (C : Addr) (cl : List (Str × Addr)) (fp : List Addr), PE (X.blk s H scope (compEnvC scope cl C X.env) fp) kx tk)
    (he : ∀ (s : Shared) (H : Hp) (C : Addr) (cl : List (Str × Addr)) (fp : List Addr), PE (X.blk s H scope (compEnvC scope cl C X.env) fp) vx te) (hs : ∀ x, foldedSetIterable iter X.env x = pure x := by intro _; rfl) :
    PS X (.Assign [.Name y py] (.DictComp kx vx [⟨tg, iter, ifs, 0⟩] scope pos) spos) (tAsg (tDc wi g tt tk te (own.map (·.2))) (gName i)) := by
  refine ⟨fun pins s σ H D I h => ?_⟩
  rw [exec_Assign_Name_used _ _ _ _ hsw]
  refine wpAny_bind (wpAny_standAt (wpAny_bind ?_))
  show wpAny _ X.A (do let _ ← comprehension (.DictComp kx vx [⟨tg, iter, ifs, 0⟩] scope pos) scope X.env (firstIterPos [⟨tg, iter, ifs, 0⟩] pos) newDict false (eval iter X.env) (some (assign (.Name y py) X.env))) _ _ s
  have h : tDc wi g tt tk te (own.map (·.2)) σ H (fun x H1 => gName i x σ H1 D.nx) := h
  refine wpAny_bind (thn (dc_core (Qf := fun _ s' => SP X pins D .next s') hc hN I hi ok hg ht hk he hs h fun L C s' m H' I' q hn f => ?_) fun _ s' hq => wpAny_pure (wpAny_pure hq))
  show wpAny _ _ (assign (.Name y py) X.env (.ref L)) _ _ _
  refine wpAny_assign_Name (store_ok2 (v := V.ref L) I' hN hy (.inl hyl) rfl (fun s2 I2 ⟨a, sb, ha⟩ => ?_) (.inr hyl))
  obtain ⟨f0, f1, f2, f3, f4, f5⟩ := f
  have haC : C ≠ a := by
    rcases ha with z | z
    · rw [z]; exact f1
    · exact fun e => f4 y a z e.symm
  refine ⟨m, hn.sameBut sb haC, fun h3 sb3 => ?_⟩
  exact ⟨_, H', I2.turned (t' := s2.toks) (fun b o hb e => (sb3.2 b hb).trans e) f0 f1 f3 f4 f5, q⟩
theorem sw_trueD {kx vx : Expr} {gs : List Comprehension} {scope : Scope} {pos py : Pos} {y : Str} {l : Nat} {env : Env} (hk : env.scope.kind = .function) (hy : env.scope.names.lookup y = some .local) (hl : (py.line == pos.line) = true)
    (ha : (scope.names.any fun (n, k) => n == y && (k == .local || k == .cell)) = false) : swapsWith (.DictComp kx vx gs scope pos) (some (.Name y py)) l env = pure true := by
  have ky : env.kindOf y = some .local := hy
  have hb : env.blockKind = .function := by unfold Env.blockKind; rw [hk]; rfl
  unfold swapsWith
  simp only [hb, ky, ha, Expr.pos, hl]
  rfl
end
/-! ### loops over any walked thing of n turns -/
theorem for_gen {J : It} {n : Nat} {g : TG} {tb : TS} {D : Ends} {σ : L2.St} {H : Hp} (Pv : Nat → L2.St → Hp → Prop) (h0 : Pv 0 σ H) (hgo : ∀ i σ H, i < n → Pv i σ H → J.go i H) (hst : ∀ σ H, Pv n σ H → J.stop n H)
    (hs : ∀ i σ H x H', i < n → Pv i σ H → J.yld i H x H' → g x σ H' fun σ2 H2 => tb { D with nx := Pv (i + 1), ct := Pv (i + 1), bk := D.nx } σ2 H2) (hd : ∀ σ H, Pv n σ H → D.nx σ H) :
    ∃ W : Nat → Nat → L2.St → Hp → Prop, (∃ m, W 0 m σ H) ∧ ∀ i m σ H, W i m σ H →
      (J.stop i H ∧ D.nx σ H) ∨ (J.go i H ∧ ∃ N : L2.St → Hp → Prop, (∀ σ' H', N σ' H' → ∃ m', m' < m ∧ W (i + 1) m' σ' H') ∧ ∀ x H', J.yld i H x H' → g x σ H' fun σ2 H2 => tb { D with nx := N, ct := N, bk := D.nx } σ2 H2) := by
  refine ⟨fun i m σ H => m = n - i ∧ i ≤ n ∧ Pv i σ H, ⟨n, by simp, Nat.zero_le _, h0⟩, ?_⟩
  rintro i m σ H ⟨rfl, hi, p⟩
  by_cases hlt : i < n
  · exact .inr ⟨hgo i σ H hlt p, Pv (i + 1), fun σ' H' p' => ⟨n - (i + 1), by omega, rfl, hlt, p'⟩, fun x H' y => hs i σ H x H' hlt p y⟩
  · have e : i = n := by omega
    subst e
    exact .inl ⟨hst σ H p, hd σ H p⟩
theorem lc_gen {J : It} {n : Nat} {g : TG} {tt : TT} {te : TE} {vs : List Nat} {σ : L2.St} {H1 : Hp} {D : Addr} {Qd : Hp → Prop} (Pv : Nat → Hp → Prop) (h0 : Pv 0 (upd H1 D (.lst []))) (hgo : ∀ i H, i < n → Pv i H → J.go i H) (hst : ∀ H, Pv n H → J.stop n H)
    (hs : ∀ i H x H', i < n → Pv i H → J.yld i H x H' → g x (wipe σ vs) H' fun σ2 H2 => wipe σ2 vs = wipe σ vs ∧ tt σ2 H2 fun b H3 =>
      if b = true then te σ2 H3 fun y H4 => ∃ acc, H4 D = some (.lst acc) ∧ acc.length < sizeLine ∧ Pv (i + 1) (upd H4 D (.lst (acc ++ [y]))) else Pv (i + 1) H3) (hd : ∀ H, Pv n H → Qd H) :
    ∃ W : Nat → Nat → Hp → Prop, (∃ m, W 0 m (upd H1 D (.lst []))) ∧ ∀ i m H, W i m H →
      (J.stop i H ∧ Qd H) ∨ (J.go i H ∧ ∃ Nx : Hp → Prop, (∀ H', Nx H' → ∃ m', m' < m ∧ W (i + 1) m' H') ∧ ∀ x H', J.yld i H x H' → g x (wipe σ vs) H' fun σ2 H2 => wipe σ2 vs = wipe σ vs ∧ tt σ2 H2 fun b H3 =>
        if b = true then te σ2 H3 fun y H4 => ∃ acc, H4 D = some (.lst acc) ∧ acc.length < sizeLine ∧ Nx (upd H4 D (.lst (acc ++ [y]))) else Nx H3) := by
  refine ⟨fun i m H => m = n - i ∧ i ≤ n ∧ Pv i H, ⟨n, by simp, Nat.zero_le _, h0⟩, ?_⟩
  rintro i m H ⟨rfl, hi, p⟩
  by_cases hlt : i < n
  · exact .inr ⟨hgo i H hlt p, Pv (i + 1), fun H' p' => ⟨n - (i + 1), by omega, rfl, hlt, p'⟩, fun x H' y => hs i H x H' hlt p y⟩
  · have e : i = n := by omega
    subst e
    exact .inl ⟨hst H p, hd H p⟩
theorem dc_gen {J : It} {n : Nat} {g : TG} {tt : TT} {tk tv : TE} {vs : List Nat} {σ : L2.St} {H1 : Hp} {D : Addr} {Qd : Hp → Prop} (Pv : Nat → Hp → Prop) (h0 : Pv 0 (upd H1 D (.dK []))) (hgo : ∀ i H, i < n → Pv i H → J.go i H) (hst : ∀ H, Pv n H → J.stop n H)
    (hs : ∀ i H x H', i < n → Pv i H → J.yld i H x H' → g x (wipe σ vs) H' fun σ2 H2 => wipe σ2 vs = wipe σ vs ∧ tt σ2 H2 fun b H3 =>
      if b = true then tk σ2 H3 fun y H4 => tv σ2 H4 fun z H5 => ∃ kvs k, y = kV k ∧ H5 D = some (.dK kvs) ∧ kvs.length < sizeLine ∧ Pv (i + 1) (upd H5 D (.dK (putK kvs k z))) else Pv (i + 1) H3) (hd : ∀ H, Pv n H → Qd H) :
    ∃ W : Nat → Nat → Hp → Prop, (∃ m, W 0 m (upd H1 D (.dK []))) ∧ ∀ i m H, W i m H →
      (J.stop i H ∧ Qd H) ∨ (J.go i H ∧ ∃ Nx : Hp → Prop, (∀ H', Nx H' → ∃ m', m' < m ∧ W (i + 1) m' H') ∧ ∀ x H', J.yld i H x H' → g x (wipe σ vs) H' fun σ2 H2 => wipe σ2 vs = wipe σ vs ∧ tt σ2 H2 fun b H3 =>
        if b = true then tk σ2 H3 fun y H4 => tv σ2 H4 fun z H5 => ∃ kvs k, y = kV k ∧ H5 D = some (.dK kvs) ∧ kvs.length < sizeLine ∧ Nx (upd H5 D (.dK (putK kvs k z))) else Nx H3) := by
  refine ⟨fun i m H => m = n - i ∧ i ≤ n ∧ Pv i H, ⟨n, by simp, Nat.zero_le _, h0⟩, ?_⟩
  rintro i m H ⟨rfl, hi, p⟩
  by_cases hlt : i < n
  · exact .inr ⟨hgo i H hlt p, Pv (i + 1), fun H' p' => ⟨n - (i + 1), by omega, rfl, hlt, p'⟩, fun x H' y => hs i H x H' hlt p y⟩
  · have e : i = n := by omega
    subst e
    exact .inl ⟨hst H p, hd H p⟩
theorem lc2_gen {J : It} {n : Nat} {g : TG} {tt : TT} {wi1 : TI} {g1 : TG} {tt1 : TT} {te : TE} {vs vs1 : List Nat} {σ : L2.St} {H1 : Hp} {D : Addr} {Qd : Hp → Prop} (Pv : Nat → Hp → Prop) (h0 : Pv 0 (upd H1 D (.lst []))) (hgo : ∀ i H, i < n → Pv i H → J.go i H) (hst : ∀ H, Pv n H → J.stop n H)
    (hs : ∀ i H x H', i < n → Pv i H → J.yld i H x H' → g x (wipe σ vs) H' fun σ2 H2 => wipe σ2 vs = wipe σ vs ∧ tt σ2 H2 fun b H3 =>
      if b = true then wi1 σ2 H3 fun J1 H4 => ∃ W1 : Nat → Nat → Hp → Prop, (∃ m, W1 0 m H4) ∧ ∀ j k H, W1 j k H →
        (J1.stop j H ∧ Pv (i + 1) H) ∨ (J1.go j H ∧ ∃ Nx1 : Hp → Prop, (∀ H', Nx1 H' → ∃ k', k' < k ∧ W1 (j + 1) k' H') ∧ ∀ x H', J1.yld j H x H' → g1 x (wipe σ2 vs1) H' fun σ3 H5 => wipe σ3 vs1 = wipe σ2 vs1 ∧ tt1 σ3 H5 fun b H6 =>
          if b = true then te σ3 H6 fun y H7 => ∃ acc, H7 D = some (.lst acc) ∧ acc.length < sizeLine ∧ Nx1 (upd H7 D (.lst (acc ++ [y]))) else Nx1 H6)
      else Pv (i + 1) H3) (hd : ∀ H, Pv n H → Qd H) :
    ∃ W : Nat → Nat → Hp → Prop, (∃ m, W 0 m (upd H1 D (.lst []))) ∧ ∀ i m H, W i m H →
      (J.stop i H ∧ Qd H) ∨ (J.go i H ∧ ∃ Nx : Hp → Prop, (∀ H', Nx H' → ∃ m', m' < m ∧ W (i + 1) m' H') ∧ ∀ x H', J.yld i H x H' → g x (wipe σ vs) H' fun σ2 H2 => wipe σ2 vs = wipe σ vs ∧ tt σ2 H2 fun b H3 =>
        if b = true then wi1 σ2 H3 fun J1 H4 => ∃ W1 : Nat → Nat → Hp → Prop, (∃ m, W1 0 m H4) ∧ ∀ j k H, W1 j k H →
          (J1.stop j H ∧ Nx H) ∨ (J1.go j H ∧ ∃ Nx1 : Hp → Prop, (∀ H', Nx1 H' → ∃ k', k' < k ∧ W1 (j + 1) k' H') ∧ ∀ x H', J1.yld j H x H' → g1 x (wipe σ2 vs1) H' fun σ3 H5 => wipe σ3 vs1 = wipe σ2 vs1 ∧ tt1 σ3 H5 fun b H6 =>
            if b = true then te σ3 H6 fun y H7 => ∃ acc, H7 D = some (.lst acc) ∧ acc.length < sizeLine ∧ Nx1 (upd H7 D (.lst (acc ++ [y]))) else Nx1 H6)
        else Nx H3) := by
  refine ⟨fun i m H => m = n - i ∧ i ≤ n ∧ Pv i H, ⟨n, by simp, Nat.zero_le _, h0⟩, ?_⟩
  rintro i m H ⟨rfl, hi, p⟩
  by_cases hlt : i < n
  · exact .inr ⟨hgo i H hlt p, Pv (i + 1), fun H' p' => ⟨n - (i + 1), by omega, rfl, hlt, p'⟩, fun x H' y => hs i H x H' hlt p y⟩
  · have e : i = n := by omega
    subst e
    exact .inl ⟨hst H p, hd H p⟩
theorem lc2_in {J1 : It} {n : Nat} {g1 : TG} {tt1 : TT} {te : TE} {vs1 : List Nat} {σ2 : L2.St} {H4 : Hp} {D : Addr} {Nx : Hp → Prop} (Pw : Nat → Hp → Prop) (h0 : Pw 0 H4) (hgo : ∀ i H, i < n → Pw i H → J1.go i H) (hst : ∀ H, Pw n H → J1.stop n H)
    (hs : ∀ j H x H', j < n → Pw j H → J1.yld j H x H' → g1 x (wipe σ2 vs1) H' fun σ3 H5 => wipe σ3 vs1 = wipe σ2 vs1 ∧ tt1 σ3 H5 fun b H6 =>
          if b = true then te σ3 H6 fun y H7 => ∃ acc, H7 D = some (.lst acc) ∧ acc.length < sizeLine ∧ Pw (j + 1) (upd H7 D (.lst (acc ++ [y]))) else Pw (j + 1) H6) (hd : ∀ H, Pw n H → Nx H) :
    ∃ W1 : Nat → Nat → Hp → Prop, (∃ m, W1 0 m H4) ∧ ∀ j k H, W1 j k H →
        (J1.stop j H ∧ Nx H) ∨ (J1.go j H ∧ ∃ Nx1 : Hp → Prop, (∀ H', Nx1 H' → ∃ k', k' < k ∧ W1 (j + 1) k' H') ∧ ∀ x H', J1.yld j H x H' → g1 x (wipe σ2 vs1) H' fun σ3 H5 => wipe σ3 vs1 = wipe σ2 vs1 ∧ tt1 σ3 H5 fun b H6 =>
          if b = true then te σ3 H6 fun y H7 => ∃ acc, H7 D = some (.lst acc) ∧ acc.length < sizeLine ∧ Nx1 (upd H7 D (.lst (acc ++ [y]))) else Nx1 H6) := by
  refine ⟨fun i m H => m = n - i ∧ i ≤ n ∧ Pw i H, ⟨n, by simp, Nat.zero_le _, h0⟩, ?_⟩
  rintro i m H ⟨rfl, hi, p⟩
  by_cases hlt : i < n
  · exact .inr ⟨hgo i H hlt p, Pw (i + 1), fun H' p' => ⟨n - (i + 1), by omega, rfl, hlt, p'⟩, fun x H' y => hs i H x H' hlt p y⟩
  · have e : i = n := by omega
    subst e
    exact .inl ⟨hst H p, hd H p⟩
/-- items f i of the turns that p keeps, nothing old changes -/
def kept (p : Nat → Bool) (f : Nat → V) (i : Nat) : List V := ((List.range i).filter p).map f
theorem kept_succ (p : Nat → Bool) (f : Nat → V) (i : Nat) : kept p f (i + 1) = kept p f i ++ (if p i = true then [f i] else []) := by
  unfold kept
  rw [List.range_succ, List.filter_append, List.map_append]
  cases h : p i <;> simp [h]
theorem kept_le (p : Nat → Bool) (f : Nat → V) (i : Nat) : (kept p f i).length ≤ i := by
  unfold kept
  rw [List.length_map]
  exact Nat.le_trans (List.length_filter_le _ _) (by rw [List.length_range]; exact Nat.le_refl _)
theorem kept_all (f : Nat → V) (i : Nat) : kept (fun _ => true) f i = (List.range i).map f := by
  unfold kept
  rw [List.filter_eq_self.mpr (fun _ _ => rfl)]
theorem lc_map {J : It} {n : Nat} {g : TG} {tt : TT} {te : TE} {vs : List Nat} {σ : L2.St} {H1 : Hp} {D : Addr} {Qd : Hp → Prop} (p : Nat → Bool) (f : Nat → V) (hD : H1 D = none) (hn : n ≤ 10000) (hgo : ∀ i H, i < n → Same H1 H → J.go i H) (hst : ∀ H, Same H1 H → J.stop n H)
    (hs : ∀ i H x H' (Kt : V → Hp → Prop) (Kf : Hp → Prop), i < n → Same H1 H → J.yld i H x H' → (p i = true → ∀ H4, Same H H4 → Kt (f i) H4) → (p i = false → ∀ H3, Same H H3 → Kf H3) →
      g x (wipe σ vs) H' fun σ2 H2 => wipe σ2 vs = wipe σ vs ∧ tt σ2 H2 fun b H3 => if b = true then te σ2 H3 Kt else Kf H3) (hd : ∀ H, Same H1 H → H D = some (.lst (kept p f n)) → Qd H) :
    ∃ W : Nat → Nat → Hp → Prop, (∃ m, W 0 m (upd H1 D (.lst []))) ∧ ∀ i m H, W i m H →
      (J.stop i H ∧ Qd H) ∨ (J.go i H ∧ ∃ Nx : Hp → Prop, (∀ H', Nx H' → ∃ m', m' < m ∧ W (i + 1) m' H') ∧ ∀ x H', J.yld i H x H' → g x (wipe σ vs) H' fun σ2 H2 => wipe σ2 vs = wipe σ vs ∧ tt σ2 H2 fun b H3 =>
        if b = true then te σ2 H3 fun y H4 => ∃ acc, H4 D = some (.lst acc) ∧ acc.length < sizeLine ∧ Nx (upd H4 D (.lst (acc ++ [y]))) else Nx H3) := by
  refine lc_gen (n := n) (fun i H => Same H1 H ∧ H D = some (.lst (kept p f i))) ⟨same_upd hD, upd_same⟩ (fun i H hi h => hgo i H hi h.1) (fun H h => hst H h.1) (fun i H x H' hi ⟨hS, hl⟩ hy => ?_) fun H h => hd H h.1 h.2
  refine hs i H x H' (fun y H4 => ∃ acc, H4 D = some (.lst acc) ∧ acc.length < sizeLine ∧ Same H1 (upd H4 D (.lst (acc ++ [y]))) ∧ upd H4 D (.lst (acc ++ [y])) D = some (.lst (kept p f (i + 1)))) (fun H3 => Same H1 H3 ∧ H3 D = some (.lst (kept p f (i + 1)))) hi hS hy (fun hp H4 sm => ⟨kept p f i, sm _ _ hl, ?_, fun b o e => ?_, ?_⟩) (fun hp H3 sm => ⟨hS.trans sm, ?_⟩)
  · exact Nat.lt_of_le_of_lt (Nat.le_trans (kept_le p f i) (Nat.le_of_lt (Nat.lt_of_lt_of_le hi hn))) (by decide)
  · rw [upd_ne (ne_of_none e hD)]
    exact sm _ _ (hS _ _ e)
  · rw [upd_same, kept_succ, hp, if_pos rfl]
  · rw [kept_succ, hp]
    simpa using sm _ _ hl
/-! ### tuples stay -/
def TupO (u : HO) : Prop := (∃ xs, u = .tup xs) ∨ ∃ o xs, u = .frz o (.tup xs)
/-- the tuples of H stand in H' -/
def TK (H H' : Hp) : Prop := ∀ b u, H b = some u → TupO u → H' b = some u
theorem TK.refl (H : Hp) : TK H H := fun _ _ h _ => h
theorem TK.trans {H H1 H2 : Hp} (a : TK H H1) (b : TK H1 H2) : TK H H2 := fun c u h t => b c u (a c u h t) t
theorem Same.tk {H H' : Hp} (e : Same H H') : TK H H' := fun b u h _ => e b u h
theorem tk_new {H : Hp} {p : Addr} {o : HO} (h : H p = none) : TK H (upd H p o) := Same.tk (same_upd h)
theorem tk_set {H : Hp} {p : Addr} {o u : HO} (h : H p = some u) (n : ¬ TupO u) : TK H (upd H p o) := fun b v e t => by
  rw [upd_ne (fun z => by rw [z, h] at e; cases e; exact n t)]
  exact e
theorem no_lst {xs : List V} : ¬ TupO (.lst xs) := fun h => by
  rcases h with ⟨_, h⟩ | ⟨_, _, h⟩ <;> cases h
theorem no_dK {xs : List (Key × V)} : ¬ TupO (.dK xs) := fun h => by
  rcases h with ⟨_, h⟩ | ⟨_, _, h⟩ <;> cases h
theorem no_dT {xs : List (List Key × V)} : ¬ TupO (.dT xs) := fun h => by
  rcases h with ⟨_, h⟩ | ⟨_, _, h⟩ <;> cases h
theorem TK.tup {K : PySem.W.Frag} {H H' : Hp} {a : Addr} {xs : List V} (e : TK H H') (h : SqT K H a xs) : SqT K H' a xs := by
  rcases h with (h | ⟨o, h⟩) | h
  · exact .inl (.inl (e _ _ h (.inl ⟨_, rfl⟩)))
  · exact .inl (.inr ⟨o, e _ _ h (.inr ⟨_, _, rfl⟩)⟩)
  · exact .inr h
/-- as lc_map, the items told by R (of tuples) -/
theorem lc_rel {J : It} {n : Nat} {g : TG} {tt : TT} {te : TE} {vs : List Nat} {σ : L2.St} {H1 : Hp} {D : Addr} {Qd : Hp → Prop} (R : Nat → V → Hp → Prop) (mono : ∀ i y H H', TK H H' → R i y H → R i y H') (hD : H1 D = none) (hn : n ≤ 10000) (hgo : ∀ i H, i < n → Same H1 H → J.go i H) (hst : ∀ H, Same H1 H → J.stop n H)
    (hs : ∀ i H x H' (Kt : V → Hp → Prop) (Kf : Hp → Prop), i < n → Same H1 H → J.yld i H x H' → (∀ y H4, Same H H4 → R i y H4 → Kt y H4) →
      g x (wipe σ vs) H' fun σ2 H2 => wipe σ2 vs = wipe σ vs ∧ tt σ2 H2 fun b H3 => if b = true then te σ2 H3 Kt else Kf H3) (hd : ∀ H ys, Same H1 H → H D = some (.lst ys) → ys.length = n → (∀ i y, ys[i]? = some y → R i y H) → Qd H) :
    ∃ W : Nat → Nat → Hp → Prop, (∃ m, W 0 m (upd H1 D (.lst []))) ∧ ∀ i m H, W i m H →
      (J.stop i H ∧ Qd H) ∨ (J.go i H ∧ ∃ Nx : Hp → Prop, (∀ H', Nx H' → ∃ m', m' < m ∧ W (i + 1) m' H') ∧ ∀ x H', J.yld i H x H' → g x (wipe σ vs) H' fun σ2 H2 => wipe σ2 vs = wipe σ vs ∧ tt σ2 H2 fun b H3 =>
        if b = true then te σ2 H3 fun y H4 => ∃ acc, H4 D = some (.lst acc) ∧ acc.length < sizeLine ∧ Nx (upd H4 D (.lst (acc ++ [y]))) else Nx H3) := by
  refine lc_gen (n := n) (fun i H => ∃ ys, Same H1 H ∧ H D = some (.lst ys) ∧ ys.length = i ∧ ∀ j y, ys[j]? = some y → R j y H) ⟨[], same_upd hD, upd_same, rfl, fun j y h => by simp at h⟩ (fun i H hi ⟨ys, h, _⟩ => hgo i H hi h) (fun H ⟨ys, h, _⟩ => hst H h) (fun i H x H' hi ⟨ys, hS, hl, hlen, hR⟩ hy => ?_) fun H ⟨ys, hS, hl, hlen, hR⟩ => hd H ys hS hl hlen hR
  refine hs i H x H' (fun y H4 => ∃ acc, H4 D = some (.lst acc) ∧ acc.length < sizeLine ∧ ∃ ys, Same H1 (upd H4 D (.lst (acc ++ [y]))) ∧ upd H4 D (.lst (acc ++ [y])) D = some (.lst ys) ∧ ys.length = i + 1 ∧ ∀ j z, ys[j]? = some z → R j z (upd H4 D (.lst (acc ++ [y]))))
    (fun H3 => ∃ ys, Same H1 H3 ∧ H3 D = some (.lst ys) ∧ ys.length = i + 1 ∧ ∀ j z, ys[j]? = some z → R j z H3) hi hS hy fun y H4 sm hr => ⟨ys, sm _ _ hl, ?_, ys ++ [y], fun b o e => ?_, upd_same, by rw [List.length_append, hlen]; rfl, fun j z hz => ?_⟩
  · rw [hlen]
    exact Nat.lt_of_lt_of_le hi (Nat.le_trans hn (by decide))
  · rw [upd_ne (ne_of_none e hD)]
    exact sm _ _ (hS _ _ e)
  · have tk : TK H4 (upd H4 D (.lst (ys ++ [y]))) := tk_set (sm _ _ hl) no_lst
    refine mono j z _ _ tk ?_
    rw [List.getElem?_append] at hz
    split at hz
    · exact mono j z _ _ (Same.tk sm) (hR j z hz)
    · rename_i hge
      have ej : j = ys.length := by
        have := List.getElem?_eq_some_iff.mp hz
        obtain ⟨h1, _⟩ := this
        simp at h1
        omega
      subst ej
      simp at hz
      subst hz
      rw [hlen]
      exact hr
end JT
/-! Top: the module's facts, nested tuples as data, isinstance. -/
namespace JT
open PySem PySem.Spec PyProof.Rows L2
def LET : Str := "abcdefghijklmnopqrstuvwxyz"
structure Top (mg : Str → Option Value) : Prop where
  isinstance : mg "isinstance" = none
  len : mg "len" = none
  all : mg "all" = none
  tuple : mg "tuple" = none
  sorted : mg "sorted" = none
  set : mg "set" = none
  list : mg "list" = none
  dict : mg "dict" = none
  min : mg "min" = none
  max : mg "max" = none
  enumerate : mg "enumerate" = none
  zip : mg "zip" = none
  int : mg "int" = none
  abs : mg "abs" = none
  range : mg "range" = none
  str : mg "str" = none
  bool : mg "bool" = none
  LETTERS : ∃ t, mg "LETTERS" = some (.str LET t)
  LONGEST : ∃ t, mg "LONGEST" = some (.int 8 t)
  MOST_NAMES : ∃ t, mg "MOST_NAMES" = some (.int 10 t)
  MOST_DEEP : ∃ t, mg "MOST_DEEP" = some (.int 9 t)
  MOST_ROWS : ∃ t, mg "MOST_ROWS" = some (.int 60 t)
  MOST_LEAVES : ∃ t, mg "MOST_LEAVES" = some (.int 10 t)
  MOST_JOINS : ∃ t, mg "MOST_JOINS" = some (.int 12 t)
section
variable {X : Cx}
theorem pe_cs {x : Str} {z : Str} {pos : Pos} (hg : Gl X x) (hm : ∃ t, X.mg x = some (.str z t)) (hd : (x == ("__debug__" : Str)) = false := by decide) : PE X (.Name x pos) (tC (.str z)) := by
  obtain ⟨t, hm⟩ := hm
  exact pe_glob hg hm ⟨t, rfl⟩ hd
theorem pe_ci {x : Str} {z : Int} {pos : Pos} (hg : Gl X x) (hm : ∃ t, X.mg x = some (.int z t)) (hd : (x == ("__debug__" : Str)) = false := by decide) : PE X (.Name x pos) (tC (.int z)) := by
  obtain ⟨t, hm⟩ := hm
  exact pe_glob hg hm ⟨t, rfl⟩ hd
end

/-! ### isinstance -/
/-- x is of the built-in class a -/
inductive Ty (K : PySem.W.Frag) (H : Hp) : V → String → Prop where
  | non : Ty K H .non "NoneType"
  | bl (b : Bool) : Ty K H (.bl b) "bool"
  | int (n : Int) : Ty K H (.int n) "int"
  | str (z : Str) : Ty K H (.str z) "str"
  | tup {a : Addr} {xs : List V} (h : H a = some (.tup xs)) : Ty K H (.ref a) "tuple"
  | lst {a : Addr} {xs : List V} (h : H a = some (.lst xs)) : Ty K H (.ref a) "list"
theorem Ty.x {K : PySem.W.Frag} {H : Hp} {x : V} {a : String} (h : Ty K H x a) : TyX K H x (.type a) := by
  cases h with
  | non => exact .base .non
  | bl b => exact .base (.bl b)
  | int n => exact .base (.int n)
  | str z => exact .base (.str z)
  | tup h => exact .base (.tup h)
  | lst h => exact .base (.lst h)
def tIsi (K : PySem.W.Frag) (te : TE) (T : String) : TE := fun σ H Q => te σ H fun x H1 => ∃ a b, Ty K H1 x a ∧ kitB a T = some b ∧ Q (.bl b) H1
theorem pe_isi {X : Cx} {e : Expr} {te : TE} {T : String} {TS : Str} {p q pos : Pos} (hg : Gl X "isinstance") (hm : X.mg "isinstance" = none) (hg2 : Gl X TS) (hm2 : X.mg TS = none) (hb : bootBuiltins TS = some (.type T)) (he : PE X e te)
    (hn : TS ≠ "__name__" := by decide) (hd : (TS == ("__debug__" : Str)) = false := by decide)
    (hs : starEach [e, .Name TS q] X.env = (false, eval e X.env) :: starEach [.Name TS q] X.env := by rfl) (hpl : (backTo pos (starEach [.Name TS q] X.env)).any (·.1) = false := by rfl) : PE X (.Call (.Name "isinstance" p) [e, .Name TS q] [] pos) (tIsi X.K te T) := by
  refine ⟨fun pins s σ H Q I h => ?_⟩
  have pb : PA X [.Name TS q] (tCons (tC (.ty T)) tNil) := pa_cons (pe_bltn (v := .ty T) hg2 hm2 hb rfl hn hd) pa_nil
  refine wpAny_Call_Name_kw (ld_blt I hg hm (show bootBuiltins "isinstance" = some (.builtin "isinstance") by decide +kernel) ?_)
  refine PyProof.Rows.callWith_builtin1 ?_ hs hpl
  rw [hs]
  show wpAny _ _ (spliced ((false, eval e X.env) :: backTo pos (starEach [.Name TS q] X.env))) _ _ s
  refine Calls.spliced_cons (thn (he.run pins s σ H _ I h) fun u s1 ⟨x, H1, I1, r1, a, b, ty, k, q1⟩ => ?_)
  refine thn (pb.run pos pins s1 σ H1 (fun vs H2 => vs = [.ty T] ∧ H2 = H1) I1 ⟨rfl, rfl⟩) fun us s2 ⟨vs, H2, I2, r2, e1, e2⟩ => ?_
  subst e1 e2
  exact call_isi pins s2 σ H2 [x, .ty T] (u :: us) Q I2 (.cons r1 r2) ⟨x, .ty T, .type a, .type T, b, rfl, .ty _, ty.x, kit_ty k, q1⟩
theorem k_ss : kitB "str" "str" = some true := by decide +kernel
theorem k_ts : kitB "tuple" "str" = some false := by decide +kernel
theorem k_tt : kitB "tuple" "tuple" = some true := by decide +kernel
theorem k_st : kitB "str" "tuple" = some false := by decide +kernel
theorem k_ii : kitB "int" "int" = some true := by decide +kernel
theorem k_ib : kitB "int" "bool" = some false := by decide +kernel
theorem k_ls : kitB "list" "str" = some false := by decide +kernel
/-! ### nested tuples as data -/
mutual
inductive DT (H : Hp) : V → PyData → Prop
  | int (i : Int) : DT H (.int i) (.int i)
  | str (x : Str) : DT H (.str x) (.str x)
  | tup {a : Addr} {xs : List V} {ds : List PyData} : H a = some (.tup xs) → DTs H xs ds → DT H (.ref a) (.tuple ds)
inductive DTs (H : Hp) : List V → List PyData → Prop
  | nil : DTs H [] []
  | cons {v : V} {vs : List V} {d : PyData} {ds : List PyData} : DT H v d → DTs H vs ds → DTs H (v :: vs) (d :: ds)
end
mutual
theorem DT.mono {H H' : Hp} (k : TK H H') : ∀ (d : PyData) (v : V), DT H v d → DT H' v d
  | .int i, _, h => by cases h; exact .int i
  | .str i, _, h => by cases h; exact .str i
  | .tuple ds, _, h => by
    cases h with
    | tup e hs => exact .tup (k _ _ e (.inl ⟨_, rfl⟩)) (DTs.mono k ds _ hs)
  | .none, _, h => by cases h
  | .bool _, _, h => by cases h
  | .list _, _, h => by cases h
  | .dict _, _, h => by cases h
theorem DTs.mono {H H' : Hp} (k : TK H H') : ∀ (ds : List PyData) (vs : List V), DTs H vs ds → DTs H' vs ds
  | [], _, h => by cases h; exact .nil
  | d :: ds, _, h => by
    cases h with
    | cons h t => exact .cons (DT.mono k d _ h) (DTs.mono k ds _ t)
end
mutual
theorem DT.dp {K : PySem.W.Frag} {H : Hp} : ∀ (d : PyData) (v : V), DT H v d → Dp K H v d
  | .int i, _, h => by cases h; exact .int i
  | .str i, _, h => by cases h; exact .str i
  | .tuple ds, _, h => by
    cases h with
    | tup e hs => exact .tup (.inl (.inl e)) (DTs.dp ds _ hs)
  | .none, _, h => by cases h
  | .bool _, _, h => by cases h
  | .list _, _, h => by cases h
  | .dict _, _, h => by cases h
theorem DTs.dp {K : PySem.W.Frag} {H : Hp} : ∀ (ds : List PyData) (vs : List V), DTs H vs ds → DpAll K H vs ds
  | [], _, h => by cases h; exact .nil
  | d :: ds, _, h => by
    cases h with
    | cons h t => exact .cons (DT.dp d _ h) (DTs.dp ds _ t)
end
theorem DT.up {H H' : Hp} {v : V} {d : PyData} (h : DT H v d) (k : TK H H') : DT H' v d := DT.mono k _ _ h
theorem DTs.up {H H' : Hp} {v : List V} {d : List PyData} (h : DTs H v d) (k : TK H H') : DTs H' v d := DTs.mono k _ _ h
theorem DT.of_tup {H : Hp} {v : V} {ds : List PyData} (h : DT H v (.tuple ds)) : ∃ a xs, v = .ref a ∧ H a = some (.tup xs) ∧ DTs H xs ds := by
  cases h with
  | tup e hs => exact ⟨_, _, rfl, e, hs⟩
theorem DT.of_str {H : Hp} {v : V} {z : Str} (h : DT H v (.str z)) : v = .str z := by
  cases h
  rfl
theorem DT.of_int {H : Hp} {v : V} {z : Int} (h : DT H v (.int z)) : v = .int z := by
  cases h
  rfl
theorem DTs.length {H : Hp} : ∀ {vs : List V} {ds : List PyData}, DTs H vs ds → vs.length = ds.length
  | _, [], h => by cases h; rfl
  | _, d :: ds, h => by
    cases h with
    | cons h t =>
      rw [List.length_cons, List.length_cons, t.length]
theorem DTs.get {H : Hp} : ∀ {vs : List V} {ds : List PyData} {i : Nat} {v : V}, DTs H vs ds → vs[i]? = some v → ∃ d, ds[i]? = some d ∧ DT H v d
  | _, [], i, v, h, e => by cases h; simp at e
  | _, d :: ds, i, v, h, e => by
    cases h with
    | cons h t =>
      cases i with
      | zero =>
        cases e
        exact ⟨d, rfl, h⟩
      | succ i => exact t.get e
theorem DTs.get2 {H : Hp} {vs : List V} {ds : List PyData} {i : Nat} {d : PyData} (h : DTs H vs ds) (e : ds[i]? = some d) : ∃ v, vs[i]? = some v ∧ DT H v d := by
  have hl := h.length
  have hi := (List.getElem?_eq_some_iff.mp e).1
  have hv : vs[i]? = some vs[i] := List.getElem?_eq_getElem (by omega)
  obtain ⟨d', e', h'⟩ := h.get hv
  rw [e] at e'
  cases e'
  exact ⟨_, hv, h'⟩
theorem DTs.snoc {H : Hp} : ∀ {vs : List V} {ds : List PyData} {v : V} {d : PyData}, DTs H vs ds → DT H v d → DTs H (vs ++ [v]) (ds ++ [d])
  | _, [], _, _, h, h' => by cases h; exact .cons h' .nil
  | _, d :: ds, _, _, h, h' => by
    cases h with
    | cons h t => exact .cons h (t.snoc h')
theorem DTs.of_get {H : Hp} : ∀ {vs : List V} {ds : List PyData}, vs.length = ds.length → (∀ (i : Nat) (v : V) (d : PyData), vs[i]? = some v → ds[i]? = some d → DT H v d) → DTs H vs ds
  | [], [], _, _ => .nil
  | v :: vs, d :: ds, hl, h => .cons (h 0 v d rfl rfl) (DTs.of_get (by simpa using hl) fun i v d e1 e2 => h (i + 1) v d e1 e2)
theorem DTs.strs {H : Hp} : ∀ (zs : List Str), DTs H (zs.map V.str) (zs.map PyData.str)
  | [] => .nil
  | z :: zs => .cons (.str z) (DTs.strs zs)
theorem DTs.ints {H : Hp} : ∀ (zs : List Int), DTs H (zs.map V.int) (zs.map PyData.int)
  | [] => .nil
  | z :: zs => .cons (.int z) (DTs.ints zs)
theorem DTs.of_ints {H : Hp} : ∀ {vs : List V} {zs : List Int}, DTs H vs (zs.map PyData.int) → vs = zs.map V.int
  | _, [], h => by cases h; rfl
  | _, z :: zs, h => by
    cases h with
    | cons h t => rw [h.of_int, t.of_ints]; rfl
theorem Same.trans' {H H1 H2 : Hp} (a : Same H H1) (b : Same H1 H2) : Same H H2 := fun p o h => b _ _ (a _ _ h)
theorem Same.refl' (H : Hp) : Same H H := fun _ _ h => h
theorem iteP {c A B : Prop} [Decidable c] (hc : c) (h : A) : if decide c = true then A else B := by
  rw [decide_eq_true hc]
  exact iteT h
theorem iteN {c A B : Prop} [Decidable c] (hc : ¬ c) (h : B) : if decide c = true then A else B := by
  rw [decide_eq_false hc]
  exact iteF h
theorem bl_true {Q : VK} {H : Hp} {b : Bool} (h : b = true) (q : Q (.bl true) H) : Q (.bl b) H := by rw [h]; exact q
theorem bl_false {Q : VK} {H : Hp} {b : Bool} (h : b = false) (q : Q (.bl false) H) : Q (.bl b) H := by rw [h]; exact q
theorem all_kept {K : PySem.W.Frag} {H : Hp} {Q : VK} {D : Addr} {n : Nat} (h : H D = some (.lst (kept (fun _ => true) (fun _ => .bl true) n))) (q : Q (.bl true) H) : rAll K [.ref D] H Q := by
  refine ⟨D, (List.range n).map fun _ => true, rfl, .inl (.inl ?_), bl_true ?_ q⟩
  · rw [h, kept_all, List.map_map]
    rfl
  · rw [List.all_map, List.all_eq_true]
    intro _ _
    rfl
end JT
/-! Mat1: trees. -/
namespace JT
open PySem PySem.Spec PyProof.Rows L2 PySem.W
def sLt (a b : Str) : Prop := a.cps.toList < b.cps.toList
instance (a b : Str) : Decidable (sLt a b) := by unfold sLt; infer_instance
structure NameOk (z : Str) : Prop where
  lo : 1 ≤ z.length
  hi : z.length ≤ 8
  all : ∀ c ∈ z.cps.toList, c ∈ LET.cps.toList
inductive Tree where
  | leaf (s : Str)
  | node (ts : List Tree)
mutual
def encT : Tree → PyData
  | .leaf s => .str s
  | .node ts => .tuple (encTs ts)
def encTs : List Tree → List PyData
  | [] => []
  | t :: ts => encT t :: encTs ts
end
mutual
def firstT : Tree → Str
  | .leaf s => s
  | .node ts => firstTs ts
def firstTs : List Tree → Str
  | [] => ""
  | t :: _ => firstT t
end
mutual
def namesT : Tree → List Str
  | .leaf s => [s]
  | .node ts => namesTs ts
def namesTs : List Tree → List Str
  | [] => []
  | t :: ts => namesT t ++ namesTs ts
end
mutual
def hT : Tree → Nat
  | .leaf _ => 0
  | .node ts => hTs ts + 1
def hTs : List Tree → Nat
  | [] => 0
  | t :: ts => max (hT t) (hTs ts)
end
-- every fork has a part
mutual
def Full : Tree → Prop
  | .leaf _ => True
  | .node ts => ts ≠ [] ∧ Fulls ts
def Fulls : List Tree → Prop
  | [] => True
  | t :: ts => Full t ∧ Fulls ts
end
-- as is_fork of trees asks
mutual
def TOk : Tree → Prop
  | .leaf s => NameOk s
  | .node ts => 2 ≤ ts.length ∧ (ts.map firstT).Pairwise sLt ∧ TOks ts
def TOks : List Tree → Prop
  | [] => True
  | t :: ts => TOk t ∧ TOks ts
end
theorem encTs_length : ∀ ts : List Tree, (encTs ts).length = ts.length
  | [] => rfl
  | t :: ts => by simp [encTs, encTs_length ts]
theorem encTs_map : ∀ ts : List Tree, encTs ts = ts.map encT
  | [] => rfl
  | t :: ts => by simp [encTs, encTs_map ts]
theorem namesTs_flat : ∀ ts : List Tree, namesTs ts = ts.flatMap namesT
  | [] => rfl
  | t :: ts => by simp [namesTs, namesTs_flat ts]
theorem Fulls_iff : ∀ {ts : List Tree}, Fulls ts ↔ ∀ t ∈ ts, Full t
  | [] => by simp [Fulls]
  | t :: ts => by simp [Fulls, Fulls_iff (ts := ts)]
theorem TOks_iff : ∀ {ts : List Tree}, TOks ts ↔ ∀ t ∈ ts, TOk t
  | [] => by simp [TOks]
  | t :: ts => by simp [TOks, TOks_iff (ts := ts)]
theorem hTs_le : ∀ {ts : List Tree} {t : Tree}, t ∈ ts → hT t ≤ hTs ts
  | u :: ts, t, h => by
    rcases List.mem_cons.mp h with e | h
    · subst e
      exact Nat.le_max_left _ _
    · exact Nat.le_trans (hTs_le h) (Nat.le_max_right _ _)
theorem hTs_max : ∀ {ts : List Tree} {n : Nat}, (∀ t ∈ ts, hT t ≤ n) → hTs ts ≤ n
  | [], n, _ => Nat.zero_le _
  | t :: ts, n, h => Nat.max_le.mpr ⟨h t (by simp), hTs_max fun u hu => h u (by simp [hu])⟩
mutual
theorem encT_inj : ∀ (t u : Tree), encT t = encT u → t = u
  | .leaf s, .leaf z, h => by simp only [encT, PyData.str.injEq] at h; rw [h]
  | .leaf s, .node us, h => by simp [encT] at h
  | .node ts, .leaf z, h => by simp [encT] at h
  | .node ts, .node us, h => by
    simp only [encT, PyData.tuple.injEq] at h
    rw [encTs_inj ts us h]
theorem encTs_inj : ∀ (t u : List Tree), encTs t = encTs u → t = u
  | [], [], _ => rfl
  | [], _ :: _, h => by simp [encTs] at h
  | _ :: _, [], h => by simp [encTs] at h
  | t :: ts, u :: us, h => by
    simp only [encTs, List.cons.injEq] at h
    rw [encT_inj t u h.1, encTs_inj ts us h.2]
end
mutual
theorem DT.inj {H : Hp} : ∀ (d e : PyData) (v : V), DT H v d → DT H v e → d = e
  | .int i, e, _, h, h' => by cases h; cases h'; rfl
  | .str i, e, _, h, h' => by cases h; cases h'; rfl
  | .tuple ds, e, _, h, h' => by
    cases h with
    | tup a hs =>
      cases h' with
      | tup b hs' =>
        rw [a] at b
        cases b
        rw [DTs.inj ds _ _ hs hs']
  | .none, _, _, h, _ => by cases h
  | .bool _, _, _, h, _ => by cases h
  | .list _, _, _, h, _ => by cases h
  | .dict _, _, _, h, _ => by cases h
theorem DTs.inj {H : Hp} : ∀ (ds es : List PyData) (vs : List V), DTs H vs ds → DTs H vs es → ds = es
  | [], _, _, h, h' => by cases h; cases h'; rfl
  | d :: ds, _, _, h, h' => by
    cases h with
    | cons a b =>
      cases h' with
      | cons a' b' => rw [DT.inj d _ _ a a', DTs.inj ds _ _ b b']
end
open Classical in
/-- the tree at v -/
noncomputable def treeOf (H : Hp) (v : V) : Tree := if h : ∃ t, DT H v (encT t) then h.choose else .leaf ""
theorem treeOf_eq {H : Hp} {v : V} {t : Tree} (h : DT H v (encT t)) : treeOf H v = t := by
  have e : ∃ t, DT H v (encT t) := ⟨t, h⟩
  unfold treeOf
  rw [dif_pos e]
  exact encT_inj _ _ (DT.inj _ _ _ e.choose_spec h)
theorem treeOf_map {H : Hp} : ∀ {vs : List V} {ts : List Tree}, DTs H vs (encTs ts) → vs.map (treeOf H) = ts
  | _, [], h => by cases h; rfl
  | _, t :: ts, h => by
    cases h with
    | cons a b => rw [List.map_cons, treeOf_eq a, treeOf_map b]
theorem trees_mem {H : Hp} : ∀ {vs : List V} {ts : List Tree}, DTs H vs (encTs ts) → ∀ v ∈ vs, DT H v (encT (treeOf H v))
  | _, [], h, v, hv => by cases h; cases hv
  | _, t :: ts, h, v, hv => by
    cases h with
    | cons a b =>
      rcases List.mem_cons.mp hv with e | hv
      · subst e
        rw [treeOf_eq a]
        exact a
      · exact trees_mem b v hv
theorem trees_of {H : Hp} : ∀ {vs : List V}, (∀ v ∈ vs, DT H v (encT (treeOf H v))) → DTs H vs (encTs (vs.map (treeOf H)))
  | [], _ => .nil
  | v :: vs, h => .cons (h v (by simp)) (trees_of fun u hu => h u (by simp [hu]))
theorem sLt_trans {a b c : Str} (h : sLt a b) (h' : sLt b c) : sLt a c := List.lt_trans h h'
theorem sLt_irrefl (a : Str) : ¬ sLt a a := List.lt_irrefl _
theorem sLt_of {a b : Str} (h : a.cps.toList ≤ b.cps.toList) (n : a ≠ b) : sLt a b := by
  unfold sLt
  rcases Classical.em (a.cps.toList < b.cps.toList) with q | q
  · exact q
  · exact absurd (PySem.W.str_of_cps (List.le_antisymm h (List.not_lt.mp q))) n
theorem sLt_tri {a b : Str} (n : a ≠ b) : sLt a b ∨ sLt b a := by
  rcases Classical.em (sLt a b) with q | q
  · exact .inl q
  · exact .inr (sLt_of (List.not_lt.mp q) (Ne.symm n))
/-- parts sorted by their first names -/
theorem sort_first {H : Hp} {vs : List V} {ts : List Tree} (h : DTs H vs (encTs ts)) (nd : (ts.map firstT).Nodup) : ∃ us : List Tree, us.Perm ts ∧ (us.map firstT).Pairwise sLt ∧ DTs H (vs.mergeSort (dataLe false fun v => .str (firstT (treeOf H v)))) (encTs us) := by
  have hm := treeOf_map h
  have hp : (vs.mergeSort (dataLe false fun v => .str (firstT (treeOf H v)))).Perm vs := List.mergeSort_perm _ _
  have mem := trees_mem h
  refine ⟨(vs.mergeSort (dataLe false fun v => .str (firstT (treeOf H v)))).map (treeOf H), ?_, ?_, trees_of fun v hv => mem v (hp.mem_iff.mp hv)⟩
  · have := hp.map (treeOf H)
    rw [hm] at this
    exact this
  · have hs : (vs.mergeSort (dataLe false fun v => .str (firstT (treeOf H v)))).Pairwise (fun a b => (firstT (treeOf H a)).cps.toList ≤ (firstT (treeOf H b)).cps.toList) := by
      rw [dataLe_str]
      have z := List.pairwise_mergeSort (le := fun a b => decide ((firstT (treeOf H a)).cps.toList ≤ (firstT (treeOf H b)).cps.toList)) (fun a b c h1 h2 => decide_eq_true (List.le_trans (of_decide_eq_true h1) (of_decide_eq_true h2)))
        (fun a b => by rcases List.le_total (firstT (treeOf H a)).cps.toList (firstT (treeOf H b)).cps.toList with q | q <;> simp [q]) vs
      exact z.imp fun q => of_decide_eq_true q
    rw [List.map_map, List.pairwise_map]
    have nd2 : ((vs.mergeSort (dataLe false fun v => .str (firstT (treeOf H v)))).map (firstT ∘ treeOf H)).Nodup := by
      have z := (hp.map (treeOf H)).map firstT
      rw [hm, List.map_map] at z
      exact z.nodup_iff.mpr nd
    have nd3 := List.pairwise_map.mp nd2
    exact (hs.and nd3).imp fun ⟨q, n⟩ => sLt_of q n
/-! ### the shape of data -/
theorem let_small : ∀ c ∈ LET.cps.toList, c < 0x110000 := by decide +kernel
theorem canLay_name {z : Str} (h : NameOk z) : (PyData.str z).canLay0 = true := by
  show z.cps.all (fun c => decide (c < 0x110000)) = true
  rw [← Array.all_toList, List.all_eq_true]
  intro c hc
  exact decide_eq_true (let_small c (h.all c hc))
mutual
theorem canLay_encT : ∀ (t : Tree), (∀ n ∈ namesT t, NameOk n) → (encT t).canLay0 = true
  | .leaf s, h => canLay_name (h s (by simp [namesT]))
  | .node ts, h => canLay_encTs ts h
theorem canLay_encTs : ∀ (t : List Tree), (∀ n ∈ namesTs t, NameOk n) → PyData.canLayAll0 (encTs t) = true
  | [], h => rfl
  | t :: ts, h => by
    show ((encT t).canLay0 && PyData.canLayAll0 (encTs ts)) = true
    rw [canLay_encT t fun n hn => h n (by simp [namesTs, hn]), canLay_encTs ts fun n hn => h n (by simp [namesTs, hn])]
    rfl
end
mutual
theorem depth_encT : ∀ (t : Tree), (encT t).depth = hT t
  | .leaf s => rfl
  | .node ts => by
    show PyData.depthAll (encTs ts) + 1 = hTs ts + 1
    rw [depth_encTs ts]
theorem depth_encTs : ∀ (t : List Tree), PyData.depthAll (encTs t) = hTs t
  | [] => rfl
  | t :: ts => by
    show max (encT t).depth (PyData.depthAll (encTs ts)) = max (hT t) (hTs ts)
    rw [depth_encT t, depth_encTs ts]
end
theorem shaped_encT {t : Tree} (h : ∀ n ∈ namesT t, NameOk n) (hh : hT t ≤ 60) : SeqAt.shaped (encT t) = true := by
  unfold SeqAt.shaped
  rw [canLay_encT t h, depth_encT]
  simp
  omega
/-! ### ordered -/
mutual
inductive Ord : Tree → Tree → Prop
  | leaf (s : Str) : Ord (.leaf s) (.leaf s)
  | one {t u : Tree} : Ord t u → Ord (.node [t]) u
  | many {ts vs us : List Tree} : 2 ≤ ts.length → Ords ts vs → us.Perm vs → (us.map firstT).Pairwise sLt → Ord (.node ts) (.node us)
inductive Ords : List Tree → List Tree → Prop
  | nil : Ords [] []
  | cons {t u : Tree} {ts us : List Tree} : Ord t u → Ords ts us → Ords (t :: ts) (u :: us)
end
theorem Ords.length : ∀ {ts us : List Tree}, Ords ts us → ts.length = us.length
  | [], us, h => by cases h; rfl
  | t :: ts, us, h => by
    cases h with
    | cons a b => simp [b.length]
theorem Ords.of_get : ∀ {ts us : List Tree}, ts.length = us.length → (∀ (i : Nat) (t u : Tree), ts[i]? = some t → us[i]? = some u → Ord t u) → Ords ts us
  | [], [], _, _ => .nil
  | t :: ts, u :: us, hl, h => .cons (h 0 t u rfl rfl) (Ords.of_get (by simpa using hl) fun i t u e1 e2 => h (i + 1) t u e1 e2)
theorem Ords.mem : ∀ {ts us : List Tree} {t : Tree}, Ords ts us → t ∈ ts → ∃ u ∈ us, Ord t u
  | t :: ts, us, v, h, hv => by
    cases h with
    | cons a b =>
      rcases List.mem_cons.mp hv with e | hv
      · subst e
        exact ⟨_, List.mem_cons_self, a⟩
      · obtain ⟨u, hu, o⟩ := b.mem hv
        exact ⟨u, List.mem_cons_of_mem _ hu, o⟩
theorem namesTs_perm {ts us : List Tree} (h : ts.Perm us) : (namesTs ts).Perm (namesTs us) := by
  rw [namesTs_flat, namesTs_flat]
  exact h.flatMap_right _
mutual
theorem Ord.names : ∀ (t u : Tree), Ord t u → (namesT u).Perm (namesT t)
  | .leaf s, _, h => by cases h; exact .refl _
  | .node ts, u, h => by
    cases h with
    | one o =>
      have z := Ord.names _ u o
      simpa [namesT, namesTs] using z
    | many h2 o p f =>
      have z := Ords.names ts _ o
      show (namesTs _).Perm (namesTs ts)
      exact (namesTs_perm p).trans z
theorem Ords.names : ∀ (t u : List Tree), Ords t u → (namesTs u).Perm (namesTs t)
  | [], _, h => by cases h; exact .refl _
  | t :: ts, _, h => by
    cases h with
    | cons a b =>
      show (namesT _ ++ namesTs _).Perm (namesT t ++ namesTs ts)
      exact (Ord.names t _ a).append (Ords.names ts _ b)
end
mutual
theorem Ord.ok : ∀ (t u : Tree), Ord t u → (∀ n ∈ namesT t, NameOk n) → TOk u
  | .leaf s, _, h, hn => by
    cases h
    exact hn s (by simp [namesT])
  | .node ts, u, h, hn => by
    cases h with
    | one o => exact Ord.ok _ u o fun n h => hn n (by simpa [namesT, namesTs] using h)
    | many h2 o p f =>
      refine ⟨by rw [p.length_eq, ← o.length]; exact h2, f, TOks_iff.mpr fun t ht => ?_⟩
      exact TOks_iff.mp (Ords.ok ts _ o hn) t (p.mem_iff.mp ht)
theorem Ords.ok : ∀ (t u : List Tree), Ords t u → (∀ n ∈ namesTs t, NameOk n) → TOks u
  | [], _, h, hn => by cases h; trivial
  | t :: ts, _, h, hn => by
    cases h with
    | cons a b =>
      exact ⟨Ord.ok t _ a fun n h => hn n (by simp [namesTs, h]), Ords.ok ts _ b fun n h => hn n (by simp [namesTs, h])⟩
end
mutual
theorem TOk.full : ∀ (t : Tree), TOk t → Full t
  | .leaf s, _ => trivial
  | .node ts, h => ⟨fun e => by rw [e] at h; exact absurd h.1 (by simp), TOks.full ts h.2.2⟩
theorem TOks.full : ∀ (t : List Tree), TOks t → Fulls t
  | [], _ => trivial
  | t :: ts, h => ⟨TOk.full t h.1, TOks.full ts h.2⟩
end
theorem firstT_mem : ∀ (t : Tree), Full t → firstT t ∈ namesT t
  | .leaf s, _ => by simp [firstT, namesT]
  | .node [], h => absurd rfl h.1
  | .node (t :: ts), h => by
    have z := firstT_mem t h.2.1
    simp only [firstT, firstTs, namesT, namesTs]
    exact List.mem_append_left _ z
theorem firsts_nodup : ∀ {ts : List Tree}, Fulls ts → (namesTs ts).Nodup → (ts.map firstT).Nodup
  | [], _, _ => List.nodup_nil
  | t :: ts, hf, hn => by
    have hn : (namesT t ++ namesTs ts).Nodup := hn
    obtain ⟨h1, h2, h3⟩ := List.nodup_append.mp hn
    rw [List.map_cons]
    refine List.nodup_cons.mpr ⟨fun h => ?_, firsts_nodup hf.2 h2⟩
    obtain ⟨u, hu, e⟩ := List.mem_map.mp h
    have a := firstT_mem t hf.1
    have b := firstT_mem u (Fulls_iff.mp hf.2 u hu)
    have c : firstT u ∈ namesTs ts := by
      rw [namesTs_flat]
      exact List.mem_flatMap.mpr ⟨u, hu, b⟩
    rw [e] at c
    exact h3 _ a _ c rfl
theorem names_pos : ∀ (t : Tree), Full t → 1 ≤ (namesT t).length := fun t h => List.length_pos_of_mem (firstT_mem t h)
mutual
theorem TOk.height : ∀ (t : Tree), TOk t → hT t + 1 ≤ (namesT t).length
  | .leaf s, _ => by simp [hT, namesT]
  | .node [], h => absurd h.1 (by simp)
  | .node [t], h => absurd h.1 (by simp)
  | .node (t :: u :: ts), h => by
    have a := TOk.height t h.2.2.1
    have b := names_pos t (TOk.full t h.2.2.1)
    have z := TOks.height (u :: ts) h.2.2.2
    have c := names_pos u (TOk.full u h.2.2.2.1)
    have d : (namesTs (u :: ts)).length = (namesT u).length + (namesTs ts).length := by simp [namesTs]
    simp only [hT, hTs, namesT, namesTs, List.length_append] at *
    omega
theorem TOks.height : ∀ (t : List Tree), TOks t → hTs t ≤ (namesTs t).length - 1
  | [], _ => Nat.zero_le _
  | t :: ts, h => by
    have a := TOk.height t h.1
    have b := TOks.height ts h.2
    simp only [hTs, namesTs, List.length_append]
    omega
end
end JT
/-! RuSort: sorted of a list that reads as data. -/
namespace JT
open PySem PySem.Spec PyProof.Rows L2 PySem.W
theorem each_vals : ∀ {xs : List V} {us : List Value}, Vals xs us → EachIs (fun (v : Value) (x : V) => RelV x v) us xs
  | _, _, .nil => .nil
  | _, _, .cons r t => .cons r (each_vals t)
theorem vals_each : ∀ {xs : List V} {us : List Value}, EachIs (fun (v : Value) (x : V) => RelV x v) us xs → Vals xs us
  | _, _, .nil => .nil
  | _, _, .cons r t => .cons r (vals_each t)
theorem each_reads {X : Cx} {pins : List (Addr × Obj)} {σ : L2.St} {H : Hp} {s : Shared} (I : Inv X pins σ H s) {enc : V → PyData} : ∀ {xs : List V} {us : List Value}, Vals xs us → (∀ x ∈ xs, Dp X.K H x (enc x)) → EachIs (fun (v : Value) (x : V) => ∃ as, Reads s.heap v (enc x) as) us xs
  | _, _, .nil, _ => .nil
  | _, _, .cons r t, h => .cons (Dp.reads I _ _ _ (h _ List.mem_cons_self) r) (each_reads I t fun x m => h x (List.mem_cons_of_mem _ m))
def rSortedData (K : PySem.W.Frag) : List V → Hp → VK → Prop := fun vs H Q => ∃ (a : Addr) (xs : List V) (enc : V → PyData), vs = [.ref a] ∧ SqL K H a xs ∧ (∀ x ∈ xs, Dp K H x (enc x)) ∧ AllAlike (xs.map enc) ∧ Sortable (xs.map enc) ∧ (∀ x ∈ xs, (enc x).depth ≤ 30) ∧
  ∀ p, H p = none → Q (.ref p) (upd H p (.lst (xs.mergeSort (dataLe false enc))))
theorem cr_sortedData {X : Cx} {k : Nat} (hr : Room k X.A) : CallR X (.builtin "sorted") (rSortedData X.K) := by
  intro pins s σ H vs us Q I r h
  obtain ⟨a, xs, enc, rfl, hs, hd, hal, hk, hdep, q⟩ := h
  obtain rfl := Vals.ref1 r
  obtain ⟨its, rv, pl, hz⟩ := I.list hs
  refine sorted_data (R := fun (v : Value) (x : V) => RelV x v) (enc := enc) pl.isList (each_vals rv) (each_reads I rv hd) hal hk hz (fun b hb => ?_) fun out hlen he => ?_
  · have h1 := hdep b hb
    have h2 := hr.units
    omega
  · have rv2 := vals_each he
    obtain ⟨ep, he'⟩ := PyProof.Rows.sortedAll_at s.heap its out.toArray
    have hl : (xs.mergeSort (dataLe false enc)).length ≤ sizeLine := by rw [List.length_mergeSort]; exact hz
    exact ⟨.ref _, upd H (s.heap.objs.size + 1) (.lst (xs.mergeSort (dataLe false enc))), I.laid (t' := s.toks) (fun _ _ => PyProof.Rows.sortedAll_old) (Nat.le_succ _) ⟨hl, _, ep, rv2, he'⟩, rfl, q _ (I.hok.fresh (Nat.le_succ _))⟩
end JT
/-! RuSortK: sorted by a key, over the layer. -/
namespace JT
open PySem PySem.Spec PyProof.Rows L2 PySem.W
/-- what a key reads as: a text, a pair of ints -/
def KeyD (H : Hp) (y : V) (d : PyData) : Prop := (∃ z, y = .str z ∧ d = .str z) ∨ ∃ t i j, y = .ref t ∧ H t = some (.tup [.int i, .int j]) ∧ d = .tuple [.int i, .int j]
theorem KeyD.mono {H H' : Hp} {y : V} {d : PyData} (h : KeyD H y d) (k : ∀ t xs, H t = some (.tup xs) → H' t = some (.tup xs)) : KeyD H' y d := by
  rcases h with h | ⟨t, i, j, e, ht, ed⟩
  · exact .inl h
  · exact .inr ⟨t, i, j, e, k _ _ ht, ed⟩
def KeyDs (H : Hp) (ys : List V) (ds : List PyData) : Prop := Paired (KeyD H) ys ds
theorem KeyD.reads {X : Cx} {pins : List (Addr × Obj)} {σ : L2.St} {H : Hp} {s : Shared} (I : Inv X pins σ H s) {y : V} {d : PyData} {u : Value} (h : KeyD H y d) (r : RelV y u) : ∃ as, Reads s.heap u d as := by
  rcases h with ⟨z, rfl, rfl⟩ | ⟨t, i, j, rfl, ht, rfl⟩
  · exact Dp.reads I _ _ _ (Dp.str z) r
  · exact Dp.reads I _ _ _ (Dp.tup (.inl (.inl ht)) (.cons (.int i) (.cons (.int j) .nil))) r
theorem KeyDs.reads {X : Cx} {pins : List (Addr × Obj)} {σ : L2.St} {H : Hp} {s : Shared} (I : Inv X pins σ H s) : ∀ {ys : List V} {ds : List PyData} {us : List Value}, Paired (KeyD H) ys ds → Vals ys us → EachIs (fun v d => ∃ as, Reads s.heap v d as) us ds
  | _, _, _, .nil, .nil => .nil
  | _, _, _, .cons h t, .cons r rr => .cons (h.reads I r) (KeyDs.reads I t rr)
section
variable {X : Cx} {pins : List (Addr × Obj)} {σ : L2.St} {A : Around} {a kS : Addr} {b : Bool} {vs : List Value} {xs : List V} {key : V → PyData} {f : Value} {H0 : Hp} {P : PySem.Fin → Shared → Prop} {E : Value → Shared → Prop}
/-- a call of the key's function on an item -/
def KeyTurn (X : Cx) (pins : List (Addr × Obj)) (σ : L2.St) (A : Around) (f : Value) (H0 : Hp) (x : V) (d : PyData) : Prop :=
  ∀ (more : List (Addr × Obj)) (H1 : Hp) (s1 : Shared) (u : Value), Same H0 H1 → Inv X (pins ++ more) σ H1 s1 → RelV x u → wpAny (model X.prog X.w) A (call f [u]) (EP X (pins ++ more) σ fun y H2 => Same H1 H2 ∧ KeyD H2 y d) (fun _ _ => False) s1
theorem FpOk.at {H H' : Hp} {p : Addr} (h : FpOk X pins H p) (n : H' p = none) : FpOk X pins H' p := ⟨n, h.2⟩
theorem keyI_rest {H : Hp} {s : Shared} {e1 : Nat} (I : Inv X pins σ H s) (h0 : Same H0 H) (na : H a = some (.frz (seqObj "list" #[] e1) (.lst []))) (nf : ∀ o' u', X.H_0 a ≠ some (.frz o' u')) (za : H0 a = none)
    (fk : FpOk X pins H kS) (ek : s.heap.get? kS = some (seqObj "list" #[] 0)) (hak : kS ≠ a) (rv : Vals xs vs) (hZ : xs.length ≤ sizeLine)
    (hal : AllAlike (xs.map key)) (hsk : Sortable (xs.map key)) (hu : ∀ d, d ∈ xs.map key → A.units + d.depth < cLine)
    (turn : ∀ x ∈ xs, KeyTurn X pins σ A f H0 x (key x))
    (h : ∀ s' H', Inv X pins σ H' s' → Same H0 H' → H' a = some (.lst (xs.mergeSort (dataLe b key))) → P (.done (.ret .none)) s') :
    wpAny (model X.prog X.w) A (ksk_rest a f b vs.toArray e1 (.ref kS)) P E s := by
  unfold ksk_rest
  refine wpAny_bind (wpAny_rule ?_)
  first
    | rw [List.forIn_toArray]
    | (rw [← Array.forIn_toList]; simp only [List.toList_toArray])
    | rw [← Array.forIn_toList]
  have lv := Vals.length rv
  refine wpAny_bind (ksk_fold (fun i s' => ∃ H' ys us e, Inv X pins σ H' s' ∧ Same H0 H' ∧ H' a = some (.frz (seqObj "list" #[] e1) (.lst [])) ∧ H' kS = none ∧ s'.heap.get? kS = some (seqObj "list" (List.toArray us) e) ∧ Vals ys us ∧ Paired (KeyD H') ys ((xs.take i).map key)) vs 0 s
    ⟨H, [], [], 0, I, h0, na, fk.1, ek, .nil, .nil⟩ ?step ?done)
  case step =>
    rintro j u s' hx ⟨H', ys, us, e, I', hs', na', zk', ek', rys, hk⟩
    simp only [Nat.zero_add] at hk ⊢
    have hj : j < xs.length := by have := (List.getElem?_eq_some_iff.mp hx).1; omega
    have hxj : xs[j]? = some xs[j] := List.getElem?_eq_getElem hj
    obtain ⟨u', hu', ru⟩ := rv.get hxj
    rw [hx] at hu'
    cases hu'
    have hlen : us.length = j := by
      have q := Paired.length hk
      rw [List.length_map, List.length_take] at q
      have q2 := Vals.length rys
      omega
    have J := I'.pinned (fp := [kS]) (fun b hb => by rw [List.mem_singleton.mp hb]; exact FpOk.at fk zk') (fun b hb => by rw [List.mem_singleton.mp hb]; exact ⟨_, ek', fun v z => nomatch z⟩)
    refine wpAny_bind (wpAny_attempt (wpAny_mono (turn _ (List.getElem_mem hj) _ H' s' u hs' J ru) (fun v s2 he => ?_) fun _ _ hF => hF.elim))
    obtain ⟨y, H2, J2, ry, hs2, kd⟩ := he
    have pk := J2.pin (kS, seqObj "list" (List.toArray us) e) (List.mem_append_right _ (List.mem_append_right _ (mem_pinsAt (List.mem_singleton.mpr rfl) ek')))
    have I2 : Inv X pins σ H2 s2 := J2.unpinned
    have na2 := hs2 _ _ na'
    have ek2 : s2.heap.get? kS = some (seqObj "list" (List.toArray us) e) := pk.1
    have zk2 : H2 kS = none := pk.2.1
    try dsimp only
    have s1 := Heap.SameBut.update s2.heap kS (Obj.mapSeq (·.push v))
    obtain ⟨c2, hc2⟩ : ∃ c2, (s2.heap.update kS (Obj.mapSeq (·.push v))).get? kS = some (seqObj "list" ((List.toArray us).push v) c2) := ⟨_, get?_update_seq ek2 (·.push v)⟩
    refine wpAny_bind (listUpdate_at ek2 rfl ?_ (by rw [List.size_toArray]; omega) (by rw [Array.size_push, List.size_toArray]; omega))
    have ea : (List.toArray us).push v = List.toArray (us ++ [v]) := by simp
    rw [ea] at hc2
    refine wpAny_pure ⟨rfl, H2, ys ++ [y], us ++ [v], c2, ?_, hs'.trans hs2, na2, zk2, hc2, rys.append (.cons ry .nil), ?_⟩
    · exact I2.turnedL (t' := s2.toks) (ch := [kS]) (fun b o hb q => (s1.2 b (fun z => hb (by rw [z]; exact List.mem_singleton.mpr rfl))).trans q) fun b hb => by rw [List.mem_singleton.mp hb]; exact FpOk.at fk zk2
    · have ek : (xs.take (j + 1)).map key = (xs.take j).map key ++ [key xs[j]] := by
        rw [List.take_add_one, hxj, List.map_append]
        rfl
      rw [ek]
      exact Paired.snoc (Paired.mapP hk fun a d q => q.mono fun t zs z => hs2 _ _ z) kd
  case done =>
    rintro s' ⟨H', ys, us, e, I', hs', na', zk', ek', rys, hk⟩
    rw [Nat.zero_add, List.take_of_length_le (by omega)] at hk
    have hus : us.length = xs.length := by
      have q := Paired.length hk
      rw [List.length_map] at q
      have q2 := Vals.length rys
      omega
    try dsimp only
    refine wpAny_bind (listItems_at ek' rfl ?_)
    obtain ⟨G, g1, g2⟩ := L2.restrict s'.heap fun b => decide (b ≠ kS)
    have hk2 := KeyDs.reads I' hk rys
    have ea' : s'.heap.get? a = some (seqObj "list" #[] e1) := (I'.hok a _ na').1
    have kpG : KeepsBut a G s'.heap := fun b o hb q => by
      by_cases z : b = kS
      · rw [z, g2 kS (by simp)] at q
        cases q
      · rw [← g1 b (by simpa using z)]
        exact q
    refine keyH_end (κ := dataKind s'.heap (xs.map key)) (h₁ := G) kpG (g2 kS (by simp)) ek' ea' hak (SortsAt.data (s := s') (by simpa using hk2) hal hsk hu) (by rw [List.size_toArray]; omega) (by omega) fun h' tk c kp hD => ?_
    have KO : KeyedOut b (xs.map key) vs (sortVals (dataKind s'.heap (xs.map key)) b (List.toArray us).toList vs) := ⟨s'.heap, (List.toArray us).toList, hal, rfl, by simpa using hk2⟩
    have ev := keyedOut_each key KO (each_vals rv)
    have rv2 := vals_each ev
    have I3 : Inv X pins σ H' { s' with heap := G, toks := s'.toks } := I'.turnedL (t' := s'.toks) (ch := [kS]) (fun b o hb q => (g1 b (by simpa using hb)).trans q) fun b hb => by rw [List.mem_singleton.mp hb]; exact FpOk.at fk zk'
    have I4 := I3.unlock na' nf
    have I5 : Inv X pins σ (upd (upd H' a (.lst [])) a (.lst (xs.mergeSort (dataLe b key)))) { s' with heap := h', toks := tk } :=
      I4.write (e := a) (t' := tk) (by rw [upd_same]; trivial) (.inl rfl) (fun b o hb q => kp b o hb q) ⟨_, hD⟩ ⟨by rw [List.length_mergeSort]; exact hZ, _, c, rv2, hD⟩
    rw [upd_upd] at I5
    refine h _ _ I5 (fun b o q => ?_) upd_same
    rw [upd_ne (ne_of_none q za)]
    exact hs' b o q
end
end JT
namespace JT
open PySem PySem.Spec PyProof.Rows L2 PySem.W
section
variable {X : Cx} {pins : List (Addr × Obj)} {σ : L2.St} {H : Hp} {s : Shared} {Q : VK}
theorem write_list {p : Addr} {ys zs : List V} {us : List Value} {h' : Heap} {c : Nat} {t' : Nat} (I : Inv X pins σ H s) (hp : H p = some (.lst ys)) (k : ∀ b o, b ≠ p → s.heap.get? b = some o → h'.get? b = some o) (rv : Vals zs us) (hz : zs.length ≤ sizeLine)
    (hg : h'.get? p = some (seqObj "list" us.toArray c)) : Inv X pins σ (upd H p (.lst zs)) { s with heap := h', toks := t' } :=
  I.write (e := p) (t' := t') (by rw [hp]; trivial) (.inl rfl) k ⟨_, hg⟩ ⟨hz, us, c, rv, hg⟩
theorem sortKey_run {v : Value} {xs : List V} {fq : Addr} {key : V → PyData} (I : Inv X pins σ H s)
    (hcoll : ∀ (R : List Value → Shared → Prop), (∀ h' tk vs, (∀ b o, s.heap.get? b = some o → h'.get? b = some o) → Vals xs vs → R vs { s with heap := h', toks := tk }) → wpAny (model X.prog X.w) X.A.in1 (collect v) R X.xe s)
    (hZ : xs.length ≤ sizeLine) (hal : AllAlike (xs.map key)) (hsk : Sortable (xs.map key)) (hu : ∀ d, d ∈ xs.map key → X.A.in1.in1.units + d.depth < cLine)
    (turn : ∀ x ∈ xs, KeyTurn X pins σ X.A.in1.in1 (.ref fq) H x (key x))
    (q : ∀ p H', Same H H' → H p = none → H' p = some (.lst (xs.mergeSort (dataLe false key))) → Q (.ref p) H') :
    wpAny (model X.prog X.w) X.A (call (.builtin "sorted") [v] [(Str.ofString "key", .ref fq)]) (EP X pins σ Q) X.xe s := by
  refine PyProof.Rows.call_function_entry_kw kind_sorted plain_sorted entry_sorted (ksk_s1 _ _) ?_
  unfold Builtin.«sorted»
  refine wpAny_bind (m := checkCount "sorted" 1 1 _) (wpAny_pure ?_)
  refine wpAny_bind (hcoll _ fun h1 tk vs hk1 rv => ?_)
  have lv := Vals.length rv
  have I1 : Inv X pins σ H { s with heap := h1, toks := tk } := I.kept hk1
  refine wpAny_bind (wpAny_newList ?_ (by omega))
  have hoL : (h1.push (seqObj "list" vs.toArray 0)).get? h1.objs.size = some (seqObj "list" vs.toArray 0) := Heap.get?_push_size _ rfl
  have na0 : H h1.objs.size = none := I1.hok.fresh (Nat.le_refl _)
  have I2 : Inv X pins σ (upd H h1.objs.size (.lst xs)) { s with heap := h1.push (seqObj "list" vs.toArray 0), toks := tk } :=
    I1.laid (t' := tk) (fun b u e => Heap.get?_push_of_some _ e) (Nat.le_refl _) ⟨hZ, vs, 0, rv, hoL⟩
  generalize ha : h1.objs.size = a at hoL na0 I2 ⊢
  generalize hh2 : h1.push (seqObj "list" vs.toArray 0) = h2 at hoL I2
  show wpAny _ _ _ _ _ ({ s with heap := h2, toks := tk } : Shared)
  refine wpAny_bind (wpAny_holding (PyProof.Rows.wpAny_call_entry_kw PyProof.Rows.slot_list_sort ⟨_, hoL, rfl⟩ PyProof.Rows.entry_list_sort ?_ (ksk_l1 _ _)))
  rw [ksk_t1]
  unfold ksk_tree
  refine wpAny_bind (listItems_at hoL rfl ?_)
  have sz2 := Heap.lt_size hoL
  obtain ⟨e1, ho1⟩ : ∃ e1, (h2.update a (Obj.mapSeq fun _ => (#[] : Array Value))).get? a = some (seqObj "list" #[] e1) := ⟨_, get?_update_seq hoL fun _ => #[]⟩
  have su := Heap.SameBut.update h2 a (Obj.mapSeq fun _ => (#[] : Array Value))
  refine wpAny_bind (listUpdate_at hoL rfl ?_ (by rw [List.size_toArray]; omega) (Nat.zero_le _))
  generalize h2.update a (Obj.mapSeq fun _ => (#[] : Array Value)) = h3 at ho1 su ⊢
  have I3 : Inv X pins σ (upd (upd H a (.lst xs)) a (.lst [])) { s with heap := h3, toks := tk } :=
    write_list (s := { s with heap := h2, toks := tk }) (t' := tk) I2 upd_same (fun b o hb q => (su.2 b hb).trans q) .nil (Nat.zero_le _) ho1
  rw [upd_upd] at I3
  refine wpAny_bind (seqEpoch_at ho1 rfl ?_)
  refine wpAny_bind (wpAny_newTuple ?_ (by show vs.length ≤ _; omega))
  refine wpAny_bind (wpAny_newList ?_ (Nat.zero_le _))
  refine wpAny_holding ?_
  have hk4 : ∀ b o, h3.get? b = some o → ((h3.push (seqObj "tuple" vs.toArray 0)).push (seqObj "list" #[] 0)).get? b = some o := fun b o e => Heap.get?_push_of_some _ (Heap.get?_push_of_some _ e)
  have I4 : Inv X pins σ (upd H a (.lst [])) { s with heap := (h3.push (seqObj "tuple" vs.toArray 0)).push (seqObj "list" #[] 0), toks := tk } := I3.kept (t' := tk) hk4
  have hsz : (h3.push (seqObj "tuple" vs.toArray 0)).objs.size = h3.objs.size + 1 := size_push' ..
  have ha3 : a < h3.objs.size := Heap.lt_size ho1
  have nf := I4.nofrz (d := a) upd_same trivial
  obtain ⟨od, I5⟩ := I4.lock (d := a) upd_same trivial
  have eod : od = seqObj "list" #[] e1 := by
    have q1 := (I5.hok a _ upd_same).1
    rw [hk4 a _ ho1] at q1
    exact (Option.some.inj q1).symm
  subst eod
  rw [upd_upd] at I5
  have fk : FpOk X pins (upd H a (.frz (seqObj "list" #[] e1) (.lst []))) (h3.push (seqObj "tuple" vs.toArray 0)).objs.size :=
    I3.fpOk (by rw [hsz]; exact Nat.le_succ _) (by rw [upd_ne (by rw [hsz]; exact Nat.ne_of_gt (Nat.lt_succ_of_lt ha3))]; exact (by have := I3.hok.fresh (show h3.objs.size ≤ h3.objs.size + 1 from Nat.le_succ _); rw [upd_ne (Nat.ne_of_gt (Nat.lt_succ_of_lt ha3))] at this; rw [hsz]; exact this))
  show wpAny _ _ (ksk_rest a (.ref fq) false vs.toArray e1 (.ref (h3.push (seqObj "tuple" vs.toArray 0)).objs.size)) _ _ ({ s with heap := (h3.push (seqObj "tuple" vs.toArray 0)).push (seqObj "list" #[] 0), toks := tk } : Shared)
  refine keyI_rest (H0 := H) (key := key) I5 (fun b o e => by rw [upd_ne (ne_of_none e na0)]; exact e) upd_same nf na0 fk (Heap.get?_push_size _ rfl) (by rw [hsz]; exact Nat.ne_of_gt (Nat.lt_succ_of_lt ha3)) rv hZ hal hsk hu turn fun s' H' I' sm hr => ⟨_, rfl, ?_⟩
  exact wpAny_pure ⟨_, rfl, .ref a, H', I', rfl, q a H' sm na0 hr⟩
end
end JT
namespace JT
open PySem PySem.Spec PyProof.Rows L2 PySem.W
section
variable {X : Cx}
/-- the callee runs at any around -/
theorem run_fnA {pins : List (Addr × Obj)} {σ : L2.St} {H : Hp} {s : Shared} {Q : VK} {us : List Value} {vs : List V} {A' : Around} {k : Nat} {f : Addr} {fd : FuncData} {ps : List Str} {sp : Sp} {E' : Value → Shared → Prop}
    (F : FnOk X.prog X.w X.K X.mg X.base CX0 k f fd ps sp) (hr : Room k A') (hf : A'.frames = some X.stack) (hb : Binds X.K fd ps [])
    (I : Inv X pins σ H s) (r : Vals vs us) (h : sp vs H Q E0) : wpAny (model X.prog X.w) A' (call (.ref f) us) (EP X pins σ Q) E' s := by
  have hl : (us ++ []).length = ps.length := by rw [List.append_nil, ← Vals.length r]; exact F.len _ _ _ _ h
  have hb' := hb s us I.kIn hl
  rw [List.append_nil] at hb'
  refine wpAny_call (codeAny_mono (F.run A' X.stack s H ⟨us, []⟩ us vs Q E0 hr ⟨hf, I.env0.mod, I.env0.bs, I.env0.bsz, I.env0.funs, I.env0.frf, I.env0.hok, I.env0.bare⟩ hb' r h) fun r s' hq => ?_)
  cases r with
  | error e => exact False.elim hq
  | ok fl =>
    cases fl with
    | ret u => exact I.after hq
    | next => exact False.elim hq
    | brk => exact False.elim hq
    | cont => exact False.elim hq
/-- of a list of one: R of the one -/
def one (R : V → Hp → Prop) : List V → Hp → Prop
  | [x], H => R x H
  | _, _ => False
theorem one_of {R : V → Hp → Prop} : ∀ {vs : List V} {H : Hp}, one R vs H → ∃ x, vs = [x] ∧ R x H
  | [x], _, h => ⟨x, rfl, h⟩
  | [], _, h => h.elim
  | _ :: _ :: _, _, h => h.elim
/-- sorted(e, key=g), g a def -/
def tSortKF (K : PySem.W.Frag) (sp : Sp) (te : TE) : TE := fun σ H Q => te σ H fun x H1 => ∃ (a : Addr) (xs : List V) (key : V → PyData), x = .ref a ∧ SqL K H1 a xs ∧ AllAlike (xs.map key) ∧ Sortable (xs.map key) ∧ (∀ x ∈ xs, (key x).depth ≤ 30) ∧
  (∀ x ∈ xs, ∀ H2, Same H1 H2 → sp [x] H2 (fun y H3 => Same H2 H3 ∧ KeyD H3 y (key x)) E0) ∧
  ∀ p H', Same H1 H' → H1 p = none → H' p = some (.lst (xs.mergeSort (dataLe false key))) → Q (.ref p) H'
theorem pe_sortedKF {k : Nat} {g : Str} {sp : Sp} {p gp pos kpos : Pos} {e : Expr} {te : TE} (C : Cal X.prog X.w X.K X.mg X.base k g sp) (hr : Room (k + 2) X.A) (hg : Gl X "sorted") (hm : X.mg "sorted" = none) (hgf : Gl X g) (he : PE X e te)
    (hdb : (g == ("__debug__" : Str)) = false := by decide)
    (hs0 : starEach [e] X.env = (false, eval e X.env) :: starEach [] X.env := by rfl) (hs : backTo pos (starEach [e] X.env) = (false, eval e X.env) :: backTo pos (starEach [] X.env) := by rfl) (hpl : (backTo pos (starEach [e] X.env)).any (·.1) = false := by rfl) :
    PE X (.Call (.Name "sorted" p) [e] [⟨some "key", .Name g gp, kpos⟩] pos) (tSortKF X.K sp te) := by
  refine ⟨fun pins s σ H Q I h => ?_⟩
  obtain ⟨f, fd, ps, F, m, kp, b⟩ := C.ex
  refine wpAny_Call_Name_kw (ld_blt I hg hm (show bootBuiltins "sorted" = some (.builtin "sorted") by decide +kernel) ?_)
  have pa : PA X [e] (tCons te tNil) := pa_cons he pa_nil hs0
  have pk : PK X [⟨some "key", .Name g gp, kpos⟩] (tCons (tC (.ref f)) tNil) := pk_cons (pe_glob hgf m rfl hdb) pk_nil
  refine PyProof.Rows.callWith_kw (thn (pa.run pos pins s σ H (one _) I h) fun us s1 ⟨vs, H1, I1, r1, q1⟩ => ?_) hs hpl rfl rfl
  obtain ⟨x, ex, q1⟩ := one_of q1
  refine thn (pk.run pos pins s1 σ H1 (fun zs H2 => zs = [.ref f] ∧ H2 = H1) I1 ⟨rfl, rfl⟩) fun ws s2 ⟨zs, H2, I2, r2, e1, e2⟩ => ?_
  subst e1 e2 ex
  obtain ⟨w1, rfl, ew⟩ := vals1 r2
  obtain rfl : w1 = Value.ref f := ew
  obtain ⟨a, xs, key, rfl, hq, hal, hsk, hd, ht, q⟩ := q1
  obtain rfl := Vals.ref1 r1
  obtain ⟨its, rv, pl, hz⟩ := I2.list hq
  have lv := Vals.length rv
  show wpAny _ _ (call (.builtin "sorted") [.ref a] [(Str.ofString "key", .ref f)]) _ _ _
  refine sortKey_run I2 (fun R hR => collect_list pl.isList (hR _ s2.toks its (fun b o e => ?_) rv) (by omega)) hz hal hsk (fun d hd2 => ?_) (fun x hx pins' H3 s3 u sm I3 ru => ?_) q
  · have hb : b ≠ s2.heap.objs.size := Nat.ne_of_lt (Heap.lt_size e)
    rw [Heap.get?_update_ne _ _ _ _ hb]
    exact Heap.get?_push_of_some _ e
  · obtain ⟨x, hx, rfl⟩ := List.mem_map.mp hd2
    have h1 := hd x hx
    have h2 := hr.units
    show X.A.units + 1 + 1 + _ < _
    omega
  · exact run_fnA F (hr.in1.in1) I3.ok.frames b I3 (.cons ru .nil) (ht x hx H3 sm)
end
end JT
/-! RuK: rules of tracked lists and tuples, their readings without the written part. -/
namespace JT
open PySem PySem.Spec PyProof.Rows L2
section
variable {X : Cx}
def rIxl : R2 := fun x y H Q => ∃ p xs i v, x = .ref p ∧ y = .int i ∧ H p = some (.lst xs) ∧ atI xs i = some v ∧ Q v H
theorem ixl : IxR X rIxl := fun value slice pins s σ H x y v u Q I rx ry ⟨p, xs, i, z, e1, e2, h, e, q⟩ => ix_list value slice pins s σ H x y v u Q I rx ry ⟨p, xs, i, z, e1, e2, .inl (.inl h), e, q⟩
def rIxt : R2 := fun x y H Q => ∃ p xs i v, x = .ref p ∧ y = .int i ∧ H p = some (.tup xs) ∧ atI xs i = some v ∧ Q v H
theorem ixt : IxR X rIxt := fun value slice pins s σ H x y v u Q I rx ry ⟨p, xs, i, z, e1, e2, h, e, q⟩ => ix_tup value slice pins s σ H x y v u Q I rx ry ⟨p, xs, i, z, e1, e2, .inl (.inl h), e, q⟩
/-- list or tuple at a -/
def Sq (H : Hp) (a : Addr) (xs : List V) : Prop := H a = some (.lst xs) ∨ H a = some (.tup xs)
theorem Sq.or {K : PySem.W.Frag} {H : Hp} {a : Addr} {xs : List V} (h : Sq H a xs) : SqL K H a xs ∨ SqT K H a xs := by
  rcases h with h | h
  · exact .inl (.inl (.inl h))
  · exact .inr (.inl (.inl h))
def rLen : List V → Hp → VK → Prop := fun xs H Q => ∃ p ys, xs = [.ref p] ∧ Sq H p ys ∧ Q (.int ys.length) H
theorem lenq : CallR X (.builtin "len") rLen := fun pins s σ H xs us Q I r ⟨p, ys, e, h, q⟩ => call_len_seq pins s σ H xs us Q I r ⟨p, ys, e, h.or, q⟩
def rIns (neg : Bool) : R2 := fun x y H Q => ∃ p xs, y = .ref p ∧ Sq H p xs ∧ flatV x = true ∧ xs.all flatV = true ∧ Q (.bl (if neg then !inV x xs else inV x xs)) H
theorem ins : OpR X (compareOp .In) (rIns false) := fun pins s σ H x y v u Q I rx ry ⟨p, xs, e, h, f1, f2, q⟩ => op_in_seq pins s σ H x y v u Q I rx ry ⟨p, xs, e, h.or, f1, f2, q⟩
theorem nins : OpR X (compareOp .NotIn) (rIns true) := fun pins s σ H x y v u Q I rx ry ⟨p, xs, e, h, f1, f2, q⟩ => op_notIn_seq pins s σ H x y v u Q I rx ry ⟨p, xs, e, h.or, f1, f2, q⟩
/-- tuple data, or a list of such -/
def Dq (H : Hp) (v : V) (d : PyData) : Prop := DT H v d ∨ ∃ a xs ds, v = .ref a ∧ H a = some (.lst xs) ∧ DTs H xs ds ∧ d = .list ds
theorem Dq.dp {K : PySem.W.Frag} {H : Hp} {v : V} {d : PyData} (h : Dq H v d) : Dp K H v d := by
  rcases h with h | ⟨a, xs, ds, rfl, h, hs, rfl⟩
  · exact DT.dp _ _ h
  · exact .lst (.inl (.inl h)) (DTs.dp _ _ hs)
def rEqd (neg : Bool) : R2 := fun x y H Q => ∃ d e, Dq H x d ∧ Dq H y e ∧ SeqAt.shaped d = true ∧ SeqAt.shaped e = true ∧ Q (.bl (if neg then !PyData.eqv d e else PyData.eqv d e)) H
theorem eqd (hu : X.A.units + 64 < cLine) : OpR X (compareOp .Eq) (rEqd false) := fun pins s σ H x y v u Q I rx ry ⟨d, e, h1, h2, f1, f2, q⟩ => op_eqD hu pins s σ H x y v u Q I rx ry ⟨d, e, h1.dp, h2.dp, f1, f2, q⟩
theorem ned (hu : X.A.units + 64 < cLine) : OpR X (compareOp .NotEq) (rEqd true) := fun pins s σ H x y v u Q I rx ry ⟨d, e, h1, h2, f1, f2, q⟩ => op_neD hu pins s σ H x y v u Q I rx ry ⟨d, e, h1.dp, h2.dp, f1, f2, q⟩
def rNind : R2 := fun x y H Q => ∃ d a xs ds, DT H x d ∧ y = .ref a ∧ H a = some (.lst xs) ∧ DTs H xs ds ∧ SeqAt.shaped d = true ∧ SeqAt.shaped (.list ds) = true ∧ Q (.bl (!ds.any fun z => PyData.eqv z d)) H
theorem nind (hu : X.A.units + 65 < cLine) : OpR X (compareOp .NotIn) rNind := fun pins s σ H x y v u Q I rx ry ⟨d, a, xs, ds, h1, e, h2, h3, f1, f2, q⟩ => op_notInD hu pins s σ H x y v u Q I rx ry ⟨d, ds, h1.dp, by rw [e]; exact .lst (.inl (.inl h2)) (h3.dp), f1, f2, q⟩
def rCatt : R2 := fun x y H Q => ∃ a b xs ys, x = .ref a ∧ y = .ref b ∧ H a = some (.tup xs) ∧ H b = some (.tup ys) ∧ xs.length + ys.length ≤ sizeLine ∧ ∀ p H', Same H H' → H' p = some (.tup (xs ++ ys)) → Q (.ref p) H'
theorem catt : OpR X (binaryOp .Add) rCatt := fun pins s σ H x y v u Q I rx ry ⟨a, b, xs, ys, e1, e2, h1, h2, hl, q⟩ => op_catA pins s σ H x y v u Q I rx ry ⟨a, b, xs, ys, e1, e2, .inl (.inl h1), .inl (.inl h2), hl,
  fun e => q _ _ (Same.refl' _) (by rw [e]; exact h2), fun _ e => q _ _ (Same.refl' _) (by rw [e, List.append_nil]; exact h1), fun _ _ p np => q _ _ (same_upd np) upd_same⟩
def rLstOf : List V → Hp → VK → Prop := fun xs H Q => ∃ p ys, xs = [.ref p] ∧ Sq H p ys ∧ ∀ l, H l = none → Q (.ref l) (upd H l (.lst ys))
theorem lstOf : CallR X (.type "list") rLstOf := fun pins s σ H xs us Q I r ⟨p, ys, e, h, q⟩ => call_list_of pins s σ H xs us Q I r ⟨p, ys, e, h.or, q⟩
def rTupOf : List V → Hp → VK → Prop := fun xs H Q => ∃ p ys, xs = [.ref p] ∧ H p = some (.lst ys) ∧ ∀ l, H l = none → Q (.ref l) (upd H l (.tup ys))
theorem tupOf : CallR X (.type "tuple") rTupOf := fun pins s σ H xs us Q I r ⟨p, ys, e, h, q⟩ => call_tuple_of pins s σ H xs us Q I r ⟨p, ys, e, .inl ⟨.inl (.inl h), q⟩⟩
def rDctP : List V → Hp → VK → Prop := fun xs H Q => ∃ (a : Addr) (ps : List Addr) (kvs : List (Key × V)), xs = [.ref a] ∧ H a = some (.lst (ps.map V.ref)) ∧ Paired (fun p kv => H p = some (.tup [kV kv.1, kv.2])) ps kvs ∧ ∀ p, H p = none → Q (.ref p) (upd H p (.dK (mergeK [] kvs)))
theorem paired_imp {α β : Type} {F G : α → β → Prop} (h : ∀ a b, F a b → G a b) : ∀ {l : List α} {m : List β}, Paired F l m → Paired G l m
  | _, _, .nil => .nil
  | _, _, .cons a b => .cons (h _ _ a) (paired_imp h b)
theorem dctP (hc : X.calm = true) : CallR X (.type "dict") rDctP := fun pins s σ H xs us Q I r ⟨a, ps, kvs, e, h, hp, q⟩ => call_dictP hc pins s σ H xs us Q I r ⟨a, ps, kvs, e, .inl (.inl h), paired_imp (fun _ _ z => .inl (.inl z)) hp, q⟩
/-- all of a list of True -/
def rAllq : List V → Hp → VK → Prop := fun vs H Q => ∃ (a : Addr) (n : Nat), vs = [V.ref a] ∧ H a = some (.lst (kept (fun _ => true) (fun _ => .bl true) n)) ∧ Q (.bl true) H
theorem allq (hc : X.calm = true) : CallR X (.builtin "all") rAllq := fun pins s σ H xs us Q I r ⟨a, n, e, h, q⟩ => cr_all hc pins s σ H xs us Q I r (by
  rw [e]
  exact all_kept h q)
def rMinq : List V → Hp → VK → Prop := fun vs H Q => ∃ (a : Addr) (ns : List Int), vs = [V.ref a] ∧ H a = some (.lst (ns.map V.int)) ∧ 0 < ns.length ∧ ∀ m, m ∈ ns → (∀ y, y ∈ ns → m ≤ y) → Q (.int m) H
theorem minq (hc : X.calm = true) : CallR X (.builtin "min") rMinq := fun pins s σ H xs us Q I r ⟨a, ns, e, h, hn, q⟩ => cr_min hc pins s σ H xs us Q I r ⟨a, ns, e, .inl (.inl h), hn, q⟩
def rSrtI : List V → Hp → VK → Prop := fun vs H Q => ∃ (a : Addr) (ns : List Int), vs = [V.ref a] ∧ H a = some (.lst (ns.map V.int)) ∧ ∀ (ns' : List Int) (p : Addr), ns'.Perm ns → ns'.Pairwise (· ≤ ·) → H p = none → Q (.ref p) (upd H p (.lst (ns'.map V.int)))
theorem srtI : CallR X (.builtin "sorted") rSrtI := fun pins s σ H xs us Q I r ⟨a, ns, e, h, q⟩ => cr_sortedI pins s σ H xs us Q I r ⟨a, ns, e, .inl (.inl h), q⟩
def rSrtS : List V → Hp → VK → Prop := fun vs H Q => ∃ (a : Addr) (xs : List Str), vs = [V.ref a] ∧ H a = some (.lst (xs.map V.str)) ∧ xs.length < 64 ∧ ∀ (ys : List Str) (p : Addr), ys.Perm xs → sortedS ys = true → H p = none → Q (.ref p) (upd H p (.lst (ys.map V.str)))
theorem srtS : CallR X (.builtin "sorted") rSrtS := fun pins s σ H xs us Q I r ⟨a, ns, e, h, hl, q⟩ => cr_sortedS pins s σ H xs us Q I r ⟨a, ns, e, .inl (.inl h), hl, q⟩
def rIdx : V → List V → Hp → VK → Prop := fun x xs H Q => ∃ (a : Addr) (ys : List V) (y : V) (j : Nat) (z : V), x = V.ref a ∧ xs = [y] ∧ H a = some (.lst ys) ∧ flatV y = true ∧ ys.all flatV = true ∧ ys[j]? = some z ∧ eqV z y = true ∧
  (∀ (m : Nat) (z' : V), m < j → ys[m]? = some z' → eqV z' y = false) ∧ Q (.int (j : Nat)) H
theorem idx : MtR X "list.index" rIdx := fun pins s σ H x xs v us Q I rx rxs ⟨a, ys, y, j, z, e1, e2, h, f1, f2, f3, f4, f5, q⟩ => mt_index pins s σ H x xs v us Q I rx rxs ⟨a, ys, y, j, z, e1, e2, .inl (.inl h), f1, f2, f3, f4, f5, q⟩
def rSll : V → Option Int → Option Int → Hp → VK → Prop := fun x lo hi H Q => ∃ a xs, x = .ref a ∧ H a = some (.lst xs) ∧ ∀ p, H p = none → Q (.ref p) (upd H p (.lst (cutV xs lo hi)))
theorem sll : SlR X rSll := fun pins s σ H x v vl vu lo hi sl Q I rx hs pl pu ⟨a, xs, e, h, q⟩ => sl_list pins s σ H x v vl vu lo hi sl Q I rx hs pl pu ⟨a, xs, e, .inl (.inl h), q⟩
def rSlt : V → Option Int → Option Int → Hp → VK → Prop := fun x lo hi H Q => ∃ a xs, x = .ref a ∧ H a = some (.tup xs) ∧ ∀ p H', (∀ b o, H b = some o → H' b = some o) → H' p = some (.tup (cutV xs lo hi)) → Q (.ref p) H'
theorem slt : SlR X rSlt := fun pins s σ H x v vl vu lo hi sl Q I rx hs pl pu ⟨a, xs, e, h, q⟩ => sl_tupA pins s σ H x v vl vu lo hi sl Q I rx hs pl pu ⟨a, xs, e, .inl (.inl h), fun hw => q _ _ (fun _ _ e => e) (by
  have e : cutV xs lo hi = xs := by
    unfold cutV
    rw [hw.1, hw.2]
    simp
  rw [e]
  exact h), fun _ p hp => q p _ (same_upd hp) upd_same⟩
theorem cut_from (xs : List V) (i : Nat) : cutV xs (some (i : Int)) none = xs.drop i := by
  unfold cutV
  rw [HT.sIx_nat, HT.sIx_none]
  rcases Nat.le_total i xs.length with h | h
  · rw [Nat.min_eq_left h]
    exact List.take_of_length_le (by rw [List.length_drop]; exact Nat.le_refl _)
  · rw [Nat.min_eq_right h, List.drop_length, List.drop_of_length_le h]
    simp
theorem cut_to (xs : List V) (i : Nat) : cutV xs none (some (i : Int)) = xs.take i := by
  unfold cutV
  rw [HT.sIx_nat, HT.sIx_none, List.drop_zero, Nat.sub_zero]
  rcases Nat.le_total i xs.length with h | h
  · rw [Nat.min_eq_left h]
  · rw [Nat.min_eq_right h, List.take_length, List.take_of_length_le h]
/-! ### methods of tracked lists -/
def tML0 (r : V → List V → Hp → VK → Prop) (to : TE) : TE := fun σ H Q => to σ H fun x H1 => (∃ a xs, x = .ref a ∧ H1 a = some (.lst xs)) ∧ r x [] H1 Q
def tML (r : V → List V → Hp → VK → Prop) (to : TE) (t : TA) : TE := fun σ H Q => to σ H fun x H1 => (∃ a xs, x = .ref a ∧ H1 a = some (.lst xs)) ∧ t σ H1 fun vs H2 => r x vs H2 Q
variable {name : Str} {id : String} {r : V → List V → Hp → VK → Prop} {to : TE} {t : TA} {o e : Expr} {es : List Expr} {apos cpos : Pos}
theorem pe_ml0 (slot : Slot "list" name id) (hty : typeOf (.builtin id) = pure (.type "method_descriptor")) (hm : MtR X id r) (ho : PE X o to)
    (hbase : attributeBase o name X.env (eval o X.env) = eval o X.env := by rfl) (hline : (apos.endLine == cpos.line) = true := by rfl) : PE X (.Call (.Attribute o name apos) [] [] cpos) (tML0 r to) := by
  refine ⟨fun pins s σ H Q I h => ?_⟩
  refine wpAny_Call_method0_late hbase hline (thn (ho.run pins s σ H _ I h) fun v s1 ⟨x, H1, I1, r1, ⟨a, xs, ex, ha⟩, q1⟩ => ?_)
  subst ex
  obtain ⟨h1, h2⟩ := tyV_is (T := "list") I1 r1 (.inl ⟨rfl, _, .inl (.inl ha)⟩)
  exact ⟨"list", id, PySem.F.plainAttrs_list, slot, hty, h1, h2, Calls.callWith_builtin rfl (PySem.evalArgs_none (hm pins s1 σ H1 (.ref a) [] v [] Q I1 r1 .nil q1))⟩
theorem pe_ml (slot : Slot "list" name id) (hty : typeOf (.builtin id) = pure (.type "method_descriptor")) (hm : MtR X id r) (ho : PE X o to) (ha : PA X (e :: es) t)
    (hbase : attributeBase o name X.env (eval o X.env) = eval o X.env := by rfl)
    (hfew : ((backTo cpos (starEach (e :: es) X.env)).all (fun x => !x.1) && (backToKw cpos (keywordEach [] X.env)).all (fun x => x.1.isSome)
      && decide ((e :: es).length + ([] : List Keyword).length + (if ([] : List Keyword).isEmpty then 0 else 1) < 30)) = true := by rfl)
    (hline : (apos.endLine == cpos.line) = true := by rfl) (hs : starEach (e :: es) X.env = (false, eval e X.env) :: starEach es X.env := by rfl) (hplain : (backTo cpos (starEach es X.env)).any (·.1) = false := by rfl) :
    PE X (.Call (.Attribute o name apos) (e :: es) [] cpos) (tML r to t) := by
  refine ⟨fun pins s σ H Q I h => ?_⟩
  refine wpAny_Call_method_late hbase hfew hline rfl (thn (ho.run pins s σ H _ I h) fun v s1 ⟨x, H1, I1, r1, ⟨a, xs, ex, hl⟩, q1⟩ => ?_)
  subst ex
  obtain ⟨h1, h2⟩ := tyV_is (T := "list") I1 r1 (.inl ⟨rfl, _, .inl (.inl hl)⟩)
  refine ⟨"list", id, PySem.F.plainAttrs_list, slot, hty, h1, h2, ?_⟩
  have hA := ha.run cpos pins s1 σ H1 _ I1 q1
  rw [hs] at hA ⊢
  refine Calls.callWith_builtin (by show (false || (backTo cpos (starEach es X.env)).any (·.1)) = false; rw [hplain] <;> rfl) (Calls.evalArgs_plain ?_)
  exact thn hA fun us s2 ⟨vs, H2, I2, r2, q2⟩ => hm pins s2 σ H2 (.ref a) vs v us Q I2 r1 r2 q2
def gTp (n : Nat) (t : TGs) : TG := fun v σ H Q => ∃ a xs, v = .ref a ∧ H a = some (.tup xs) ∧ xs.length = n ∧ t xs σ H Q
theorem pgt {es : List Expr} {k : Nat} {t : TGs} {n : Nat} {pos : Pos} (hc : X.calm = true) (h : PGs X es t)
    (hn : (assignEach es X.env).length = n := by rfl) (hst : (assignEach es X.env).findIdx? (·.1) = none := by rfl) : PG X (.Tuple es k pos) (gTp n t) :=
  ⟨fun pins s σ H v u Q I r ⟨a, xs, e1, hq, hl, hw⟩ => (pg_tup hc h hn hst).run pins s σ H v u Q I r ⟨a, xs, e1, .inl (.inl hq), hl, hw⟩⟩
theorem pi_listK (K : PySem.W.Frag) {tg l : Expr} {tl : TE} (hl : PE X l tl) (hK : X.K = K := by rfl) : PI X tg l (iList K tl) := by
  subst hK
  exact pi_list hl
theorem pi_tupK (K : PySem.W.Frag) {tg l : Expr} {tl : TE} (hl : PE X l tl) (hK : X.K = K := by rfl) : PI X tg l (iTup K tl) := by
  subst hK
  exact pi_tup hl
end
end JT
/-! W1: the defs of trees. -/
namespace JT
open PySem PySem.Spec PyProof.Rows L2 PySem.W
abbrev s_is_name : Stmt := topS 9
abbrev n_is_name : List Str := ["thing", "sign"]
theorem sc_is_name : FnScope n_is_name ["thing"] (defScope s_is_name) :=
  ⟨rfl, rfl, rfl, by decide +kernel, rfl, by decide +kernel, by decide +kernel⟩
section
variable {P : Program} {w : World} {K : PySem.W.Frag} {mg : Str → Option Value} {base : Heap}
def spIsName : Sp := fun vs H Q _ => (∃ z, vs = [.str z] ∧ NameOk z ∧ ∀ H', Same H H' → Q (.bl true) H') ∨ ∃ a xs, vs = [.ref a] ∧ H a = some (.tup xs) ∧ Q (.bl false) H
theorem c_is_name (T : Top mg) (D : Def K mg "is_name" "is_name" s_is_name) : Cal P w K mg base 1 "is_name" spIsName := by
  refine D.cal sc_is_name (fun _ _ _ _ _ _ us hl => match us, hl with | [_], _ => rfl) (fun vs H Q E h => ?_) fun f cdv A outer s H vs Q E hr hsp => ?_
  · rcases h with ⟨_, rfl, _⟩ | ⟨_, _, rfl, _⟩ <;> rfl
  have hu := hu_of hr
  refine ⟨_, (pss_one (ps_ret (pe_and (pe_isi (T := "str") rfl T.isinstance rfl T.str (by decide +kernel) (pv 0)) (pe_and (pe_chain op_le op_le pe_int (pe_callB call_len_str rfl T.len PySem.boot_len (pa_cons (pv 0) pa_nil)) (pe_ci rfl T.LONGEST)) (pe_one (pe_callB (allq rfl) rfl T.all (by decide +kernel) (pa_cons (pe_lc (own := [("sign", 1)]) (g := gName 1) (tt := tYes) rfl sc_is_name.nd (pi_str (pv 0)) (blkOk_by (own := [("sign", 1)]) (N := n_is_name) (sc := defScope s_is_name) (by decide +kernel)) (fun _ _ _ _ _ => (pg_name (i := 1) sc_is_name.nd rfl (Or.inl rfl))) (fun _ _ _ _ _ => pts_nil) (fun _ _ _ _ _ => (pe_cmpR op_in_sign (pv 1) (pe_cs rfl T.LETTERS) (by rfl)))) pa_nil))))))), ?_⟩
  rcases hsp with ⟨z, rfl, hz, q⟩ | ⟨a, xs, rfl, ha, q⟩
  · refine ⟨_, rfl, _, _, .str z, k_ss, ⟨_, rfl, iteT ?_⟩⟩
    have hl : z.length ≤ sizeLine := Nat.le_trans hz.hi (by decide)
    refine ⟨_, rfl, z, rfl, hl, ⟨1, (z.length : Int), rfl, rfl, _, rfl, iteP (by have := hz.lo; omega) ?_⟩⟩
    refine ⟨(z.length : Int), 8, rfl, rfl, _, rfl, iteP (by have := hz.hi; omega) ?_⟩
    have hsz : z.cps.size ≤ 10000 := Nat.le_trans (show z.cps.size ≤ 8 from hz.hi) (by decide)
    refine ⟨_, rfl, z, rfl, fun Dd hD => lc_map (n := z.cps.size) (fun _ => true) (fun _ => .bl true) hD hsz (fun i H hi _ => hi) (fun H _ => Nat.le_refl _) (fun i H1 x H' Kt Kf hi hS hy hKt hKf => ?_) (fun H1 hS hl => ⟨_, _, rfl, hl, q _ hS⟩)⟩
    obtain ⟨rfl, c, hc, rfl⟩ := hy
    refine ⟨rfl, _, rfl, c, LET, rfl, rfl, ?_⟩
    have hm : c ∈ LET.cps.toList := hz.all c (by
      have := List.mem_of_getElem? (show z.cps.toList[i]? = some c by simpa using hc)
      exact this)
    rw [decide_eq_true hm]
    exact hKt rfl _ (Same.refl' _)
  · exact ⟨_, rfl, _, _, .tup ha, k_ts, ⟨_, rfl, iteF q⟩⟩
end
abbrev s_first_name : Stmt := topS 10
abbrev n_first_name : List Str := ["tree"]
theorem sc_first_name : FnScope n_first_name ["tree"] (defScope s_first_name) :=
  ⟨rfl, rfl, rfl, by decide +kernel, rfl, by decide +kernel, by decide +kernel⟩
section
variable {P : Program} {w : World} {K : PySem.W.Frag} {mg : Str → Option Value} {base : Heap}
def spFirst : Sp := fun vs H Q _ => ∃ v t, vs = [v] ∧ DT H v (encT t) ∧ Full t ∧ Q (.str (firstT t)) H
theorem c_first_name (T : Top mg) (D : Def K mg "first_name" "first_name" s_first_name) : Cal P w K mg base 1 "first_name" spFirst := by
  refine D.cal sc_first_name (fun _ _ _ _ _ _ us hl => match us, hl with | [_], _ => rfl) (fun vs H Q E h => ?_) fun f cdv A outer s H vs Q E hr hsp => ?_
  · obtain ⟨_, _, rfl, _⟩ := h; rfl
  have hu := hu_of hr
  refine ⟨_, (pss_cons (ps_while PassesOwn.never (pt_not (pt_val (pe_isi (T := "str") rfl T.isinstance rfl T.str (by decide +kernel) (pv 0)))) (pss_one (ps_set (i := 0) sc_first_name.nd rfl (Or.inl rfl) (pe_ix ixt (pv 0) pe_int (fun _ _ => rfl)))))
    (pss_one (ps_ret (pv 0)))), ?_⟩
  obtain ⟨v, t, rfl, hd, hf, q⟩ := hsp
  refine ⟨fun m σ H' => ∃ v u, σ = [some v] ∧ H' = H ∧ DT H v (encT u) ∧ Full u ∧ firstT u = firstT t ∧ m = hT u, ⟨_, v, t, rfl, rfl, hd, hf, rfl, rfl⟩, ?_⟩
  rintro m σ H' ⟨v, u, rfl, rfl, hd, hf, he, rfl⟩
  cases u with
  | leaf z =>
    rw [hd.of_str]
    refine ⟨_, rfl, _, _, .str z, k_ss, ⟨_, rfl, iteF ?_⟩⟩
    exact ⟨_, rfl, by rw [show z = firstT t from he]; exact q⟩
  | node ts =>
    obtain ⟨a, xs, rfl, ha, hs⟩ := DT.of_tup hd
    refine ⟨_, rfl, _, _, .tup ha, k_ts, ⟨_, rfl, iteT ?_⟩⟩
    obtain ⟨hne, hfs⟩ := hf
    cases ts with
    | nil => exact absurd rfl hne
    | cons u us =>
      cases hs with
      | cons h1 h2 =>
        refine ⟨_, fun σ' H' h => h, ?_⟩
        refine ⟨_, rfl, _, _, 0, _, rfl, rfl, ha, atI_nat (j := 0) rfl, ?_⟩
        exact ⟨hT u, Nat.lt_succ_of_le (hTs_le (by simp)), _, u, rfl, rfl, h1, hfs.1, he, rfl⟩
end
abbrev s_standing : Stmt := topS 11
abbrev n_standing : List Str := ["tree", "part", "name"]
theorem sc_standing : FnScope n_standing ["tree"] (defScope s_standing) :=
  ⟨rfl, rfl, rfl, by decide +kernel, rfl, by decide +kernel, by decide +kernel⟩
section
variable {P : Program} {w : World} {K : PySem.W.Frag} {mg : Str → Option Value} {base : Heap}
theorem dummy {x g : Str} {st : Stmt} {N ps : List Str} (D : Def K mg g x st) (S : FnScope N ps (defScope st)) (hb : ∀ (kV doc pm : Value) (an : Option Addr) (cdv ct : Value) (us : List Value), us.length = ps.length → bindArgs (PySem.W.fnOf x x (defArgs st) (defBody st) (defScope st) .none kV doc pm an cdv ct) ⟨us, []⟩ = pure (ps.zip us))
    {sp : Sp} (h : ∀ vs H Q E, ¬ sp vs H Q E) : Cal P w K mg base 1 g sp := D.cal (k := 0) S hb (fun vs H Q E z => (h _ _ _ _ z).elim) fun f cdv A outer s H vs Q E hr z => (h _ _ _ _ z).elim
def spStanding (h : Nat) : Sp := fun vs H Q _ => ∃ v t, vs = [v] ∧ DT H v (encT t) ∧ hT t < h ∧ (namesT t).length ≤ 1000 ∧ ∀ H' p, Same H H' → H p = none → H' p = some (.lst ((namesT t).map V.str)) → Q (.ref p) H'
theorem namesTs_take {ts : List Tree} {i : Nat} {t : Tree} (h : ts[i]? = some t) : namesTs (ts.take (i + 1)) = namesTs (ts.take i) ++ namesT t := by
  rw [List.take_add_one, h, namesTs_flat, namesTs_flat, List.flatMap_append]
  simp
theorem namesTs_mem {ts : List Tree} {t : Tree} (h : t ∈ ts) : (namesT t).length ≤ (namesTs ts).length := by
  induction ts with
  | nil => cases h
  | cons u us ih =>
    simp only [namesTs, List.length_append]
    rcases List.mem_cons.mp h with e | h
    · subst e
      omega
    · have := ih h
      omega
theorem namesTs_takele : ∀ (ts : List Tree) (i : Nat), (namesTs (ts.take i)).length ≤ (namesTs ts).length
  | [], i => by simp
  | t :: ts, 0 => by simp [namesTs]
  | t :: ts, i + 1 => by
    have := namesTs_takele ts i
    simp only [List.take_succ_cons, namesTs, List.length_append]
    omega
theorem c_standing (T : Top mg) (D : Def K mg "standing" "standing" s_standing) : ∀ h, Cal P w K mg base (h + 1) "standing" (spStanding h)
  | 0 => dummy D sc_standing (fun _ _ _ _ _ _ us hl => match us, hl with | [_], _ => rfl) fun _ _ _ _ ⟨_, _, _, _, h, _⟩ => Nat.not_lt_zero _ h
  | h + 1 => by
    have C_standing : Cal P w K mg base (h + 1) "standing" (spStanding h) := c_standing T D h
    refine D.cal sc_standing (fun _ _ _ _ _ _ us hl => match us, hl with | [_], _ => rfl) (fun vs H Q E h => ?_) fun f cdv A outer s H vs Q E hr hsp => ?_
    · obtain ⟨_, _, rfl, _⟩ := h; rfl
    have hu := hu_of hr
    refine ⟨_, (pss_cons (ps_if (pt_val (pe_isi (T := "str") rfl T.isinstance rfl T.str (by decide +kernel) (pv 0))) (pss_one (ps_ret (pe_lst (pa_cons (pv 0) pa_nil)))) pss_nil)
    (pss_one (ps_ret (pe_lc2 (own := [("part", 1), ("name", 2)]) (g := gName 1) (tt := tYes) (vs1 := [2]) (g1 := gName 2) (tt1 := tYes) rfl sc_standing.nd (pi_tupK K (pv 0)) (blkOk_by (own := [("part", 1), ("name", 2)]) (N := n_standing) (sc := defScope s_standing) (by decide +kernel)) (by decide) (fun _ _ _ _ _ => (pg_name (i := 1) sc_standing.nd rfl (Or.inl rfl))) (fun _ _ _ _ _ => pts_nil) (fun _ _ _ _ _ => (pi_listK K (pe_f C_standing hr rfl (pa_cons (pv 1) pa_nil)))) (fun _ _ _ _ _ => (pg_name (i := 2) sc_standing.nd rfl (Or.inl rfl))) (fun _ _ _ _ _ => pts_nil) (fun _ _ _ _ _ => (pv 2)))))), ?_⟩
    obtain ⟨v, t, rfl, hd, hh, hn, q⟩ := hsp
    cases t with
    | leaf z =>
      rw [hd.of_str]
      refine ⟨_, rfl, _, _, .str z, k_ss, ⟨_, rfl, iteT ?_⟩⟩
      exact ⟨_, rfl, small (by simp), fun p np => q _ _ (same_upd np) np upd_same⟩
    | node ts =>
      obtain ⟨a, xs, rfl, ha, hs⟩ := DT.of_tup hd
      have hlen : xs.length = ts.length := hs.length.trans (encTs_length ts)
      refine ⟨_, rfl, _, _, .tup ha, k_ts, ⟨_, rfl, iteF ?_⟩⟩
      refine ⟨_, rfl, a, rfl, ⟨xs, .inl (.inl ha)⟩, fun Dd hD => ?_⟩
      refine lc2_gen (n := xs.length) (fun i H1 => Same H H1 ∧ H1 Dd = some (.lst ((namesTs (ts.take i)).map V.str))) ⟨same_upd hD, upd_same⟩ (fun i H1 hi hp => ⟨xs, xs[i], .inl (.inl (hp.1 _ _ ha)), by simp [hi]⟩) (fun H1 hp => ⟨xs, .inl (.inl (hp.1 _ _ ha)), Nat.le_refl _⟩) (fun i H1 x H2 hi ⟨hS, hl⟩ hy => ?_) fun H1 ⟨hS, hl⟩ => ?_
      · obtain ⟨rfl, hx⟩ := hy
        have hx := hx xs (.inl (.inl (hS _ _ ha)))
        obtain ⟨d, e1, hd1⟩ := hs.get hx
        rw [encTs_map, List.getElem?_map] at e1
        obtain ⟨t, e2, rfl⟩ := Option.map_eq_some_iff.mp e1
        have tm : t ∈ ts := List.mem_of_getElem? e2
        refine ⟨rfl, _, rfl, _, t, rfl, hd1.up (Same.tk hS), Nat.lt_of_le_of_lt (hTs_le tm) (Nat.lt_of_succ_lt_succ hh), Nat.le_trans (namesTs_mem tm) hn, fun H3 l S3 l0 hl3 => ⟨l, rfl, ⟨_, .inl (.inl hl3)⟩, ?_⟩⟩
        have lD : l ≠ Dd := fun z => by rw [z, hl] at l0; cases l0
        have hn2 : (namesTs ts).length ≤ 1000 := hn
        have etk : namesTs (ts.take (i + 1)) = namesTs (ts.take i) ++ namesT t := namesTs_take e2
        have hle : (namesTs (ts.take (i + 1))).length ≤ 1000 := by
          exact Nat.le_trans (namesTs_takele ts _) hn2
        rw [etk, List.length_append] at hle
        refine lc2_in (n := (namesT t).length) (fun j H4 => Same H H4 ∧ H4 l = some (.lst ((namesT t).map V.str)) ∧ H4 Dd = some (.lst ((namesTs (ts.take i) ++ (namesT t).take j).map V.str))) ⟨Same.trans' hS S3, hl3, by rw [S3 _ _ hl]; simp⟩
          (fun j H4 hj hp => ⟨_, ((namesT t).map V.str)[j]'(by simpa using hj), .inl (.inl hp.2.1), by simp [hj]⟩) (fun H4 hp => ⟨_, .inl (.inl hp.2.1), by simp⟩) (fun j H4 y H5 hj ⟨S4, l4, d4⟩ hy2 => ?_) fun H4 ⟨S4, l4, d4⟩ => ⟨S4, ?_⟩
        · obtain ⟨rfl, hy2⟩ := hy2
          have hy2 := hy2 _ (.inl (.inl l4))
          refine ⟨rfl, _, rfl, _, d4, ?_, ?_, ?_, ?_⟩
          · rw [List.length_map, List.length_append, List.length_take]
            exact smallT (by omega)
          · intro b o e
            rw [upd_ne (ne_of_none e hD)]
            exact S4 _ _ e
          · rw [upd_ne lD]
            exact l4
          · rw [upd_same, List.take_add_one, ← List.append_assoc, List.map_append]
            rw [List.getElem?_map] at hy2
            obtain ⟨z, e5, rfl⟩ := Option.map_eq_some_iff.mp hy2
            rw [e5]
            simp
        · rw [d4, etk, List.take_length]
      · refine q _ _ hS hD ?_
        rw [hl, hlen, List.take_length]
        rfl
end
end JT
/-! W2: the defs of trees. -/
namespace JT
open PySem PySem.Spec PyProof.Rows L2 PySem.W
abbrev s_is_fork_trees : Stmt := topS 12
abbrev n_is_fork_trees : List Str := ["thing", "deep", "firsts", "part", "k"]
theorem sc_is_fork_trees : FnScope n_is_fork_trees ["thing", "deep"] (defScope s_is_fork_trees) :=
  ⟨rfl, rfl, rfl, by decide +kernel, rfl, by decide +kernel, by decide +kernel⟩
section
variable {P : Program} {w : World} {K : PySem.W.Frag} {mg : Str → Option Value} {base : Heap}
theorem hu64_of {A : Around} {k : Nat} (h : Room k A) : A.units + 64 < cLine := h.units
theorem hu65_of {A : Around} {k : Nat} (h : Room (k + 1) A) : A.units + 65 < cLine := by
  have := h.un
  omega
theorem sq_at {H : Hp} {a : Addr} {xs : List V} {K : PySem.W.Frag} (h : H a = some (.tup xs)) : SqT K H a xs := .inl (.inl h)
theorem sl_at {H : Hp} {a : Addr} {xs : List V} {K : PySem.W.Frag} (h : H a = some (.lst xs)) : SqL K H a xs := .inl (.inl h)
theorem go_tup {H : Hp} {a : Addr} {xs : List V} {K : PySem.W.Frag} {i : Nat} (h : H a = some (.tup xs)) (hi : i < xs.length) : (Itt K a).go i H := ⟨xs, xs[i], sq_at h, by simp [hi]⟩
theorem st_tup {H : Hp} {a : Addr} {xs : List V} {K : PySem.W.Frag} {i : Nat} (h : H a = some (.tup xs)) (hi : xs.length ≤ i) : (Itt K a).stop i H := ⟨xs, sq_at h, hi⟩
theorem go_lst {H : Hp} {a : Addr} {xs : List V} {K : PySem.W.Frag} {i : Nat} (h : H a = some (.lst xs)) (hi : i < xs.length) : (Itl K a).go i H := ⟨xs, xs[i], sl_at h, by simp [hi]⟩
theorem st_lst {H : Hp} {a : Addr} {xs : List V} {K : PySem.W.Frag} {i : Nat} (h : H a = some (.lst xs)) (hi : xs.length ≤ i) : (Itl K a).stop i H := ⟨xs, sl_at h, hi⟩
/-- the i-th part of a node -/
theorem part_at {H : Hp} {xs : List V} {ts : List Tree} {i : Nat} {x : V} (hs : DTs H xs (encTs ts)) (hx : xs[i]? = some x) : ∃ t, ts[i]? = some t ∧ t ∈ ts ∧ DT H x (encT t) := by
  obtain ⟨d, e1, hd1⟩ := hs.get hx
  rw [encTs_map, List.getElem?_map] at e1
  obtain ⟨t, e2, rfl⟩ := Option.map_eq_some_iff.mp e1
  exact ⟨t, e2, List.mem_of_getElem? e2, hd1⟩
def spForkT (h : Nat) : Sp := fun vs H Q _ => ∃ v t d, vs = [v, .int d] ∧ DT H v (encT t) ∧ TOk t ∧ (hT t : Int) ≤ d ∧ hT t < h ∧ (namesT t).length ≤ 1000 ∧ ∀ H', Same H H' → Q (.bl true) H'
theorem names_len : ∀ {ts : List Tree}, TOks ts → ts.length ≤ (namesTs ts).length
  | [], _ => Nat.zero_le _
  | t :: ts, h => by
    have a := names_pos t (TOk.full t h.1)
    have b := names_len h.2
    simp only [namesTs, List.length_append, List.length_cons]
    omega
theorem c_is_fork_trees (T : Top mg) (D : Def K mg "is_fork_trees" "is_fork" s_is_fork_trees) (C_is_name : Cal P w K mg base 1 "is_name" spIsName) (C_first_name : Cal P w K mg base 1 "first_name" spFirst) : ∀ h, Cal P w K mg base (h + 1) "is_fork_trees" (spForkT h)
  | 0 => dummy D sc_is_fork_trees (fun _ _ _ _ _ _ us hl => match us, hl with | [_, _], _ => rfl) fun _ _ _ _ ⟨_, _, _, _, _, _, _, h, _⟩ => Nat.not_lt_zero _ h
  | h + 1 => by
    have C_is_fork_trees : Cal P w K mg base (h + 1) "is_fork_trees" (spForkT h) := c_is_fork_trees T D C_is_name C_first_name h
    have C_is_name := C_is_name.mono (show 1 ≤ h + 1 by omega)
    have C_first_name := C_first_name.mono (show 1 ≤ h + 1 by omega)
    refine D.cal sc_is_fork_trees (fun _ _ _ _ _ _ us hl => match us, hl with | [_, _], _ => rfl) (fun vs H Q E h => ?_) fun f cdv A outer s H vs Q E hr hsp => ?_
    · obtain ⟨_, _, _, rfl, _⟩ := h; rfl
    have hu := hu_of hr
    refine ⟨_, (pss_cons (ps_if (pt_not (pt_val (pe_isi (T := "tuple") rfl T.isinstance rfl T.tuple (by decide +kernel) (pv 0)))) (pss_one (ps_ret (pe_f C_is_name hr rfl (pa_cons (pv 0) pa_nil)))) pss_nil)
    (pss_cons (ps_if (PW.pt (pw_or (pt_cmpR op_eq (pv 1) pe_int (nomark _)) (pw_or (pt_cmpR op_lt (pe_callB lenq rfl T.len PySem.boot_len (pa_cons (pv 0) pa_nil)) pe_int (nomark _)) (pw_or1 (pt_not (pt_val (pe_callB (allq rfl) rfl T.all (by decide +kernel) (pa_cons (pe_lc (own := [("part", 3)]) (g := gName 3) (tt := tYes) rfl sc_is_fork_trees.nd (pi_tupK K (pv 0)) (blkOk_by (own := [("part", 3)]) (N := n_is_fork_trees) (sc := defScope s_is_fork_trees) (by decide +kernel)) (fun _ _ _ _ _ => (pg_name (i := 3) sc_is_fork_trees.nd rfl (Or.inl rfl))) (fun _ _ _ _ _ => pts_nil) (fun _ _ _ _ _ => (pe_f C_is_fork_trees hr rfl (pa_cons (pv 3) (pa_cons (pe_op op_sub (pv 1) pe_int) pa_nil))))) pa_nil)))))))) (pss_one (ps_ret pe_bl)) pss_nil)
    (pss_cons (ps_set (i := 2) sc_is_fork_trees.nd rfl (Or.inr rfl) (pe_lc (own := [("part", 3)]) (g := gName 3) (tt := tYes) rfl sc_is_fork_trees.nd (pi_tupK K (pv 0)) (blkOk_by (own := [("part", 3)]) (N := n_is_fork_trees) (sc := defScope s_is_fork_trees) (by decide +kernel)) (fun _ _ _ _ _ => (pg_name (i := 3) sc_is_fork_trees.nd rfl (Or.inl rfl))) (fun _ _ _ _ _ => pts_nil) (fun _ _ _ _ _ => (pe_f C_first_name hr rfl (pa_cons (pv 3) pa_nil)))))
    (pss_one (ps_ret (pe_callB (allq rfl) rfl T.all (by decide +kernel) (pa_cons (pe_lc (own := [("k", 4)]) (g := gName 4) (tt := tYes) rfl sc_is_fork_trees.nd (pi_range2 rfl T.range (pa_cons pe_int (pa_cons (pe_callB lenq rfl T.len PySem.boot_len (pa_cons (pv 2) pa_nil)) pa_nil))) (blkOk_by (own := [("k", 4)]) (N := n_is_fork_trees) (sc := defScope s_is_fork_trees) (by decide +kernel)) (fun _ _ _ _ _ => (pg_name (i := 4) sc_is_fork_trees.nd rfl (Or.inl rfl))) (fun _ _ _ _ _ => pts_nil) (fun _ _ _ _ _ => (pe_cmpR op_lt_str (pe_ix ixl (pv 2) (pe_op op_sub (pv 4) pe_int) (fun _ _ => rfl)) (pe_ix ixl (pv 2) (pv 4) (fun _ _ => rfl)) (nomark _)))) pa_nil))))))), ?_⟩
    obtain ⟨v, t, d, rfl, hd, hok, hdp, hh, hn, q⟩ := hsp
    cases t with
    | leaf z =>
      rw [hd.of_str]
      exact ⟨_, rfl, _, _, .str z, k_st, ⟨_, rfl, iteT ⟨_, rfl, .inl ⟨z, rfl, hok, q⟩⟩⟩⟩
    | node ts =>
      obtain ⟨a, xs, rfl, ha, hs⟩ := DT.of_tup hd
      have hlen : xs.length = ts.length := hs.length.trans (encTs_length ts)
      obtain ⟨h2, hfs, hoks⟩ := hok
      have hn' : (namesTs ts).length ≤ 1000 := hn
      have hxl : xs.length ≤ 10000 := by have := names_len hoks; omega
      refine ⟨_, rfl, _, _, .tup ha, k_tt, ⟨_, rfl, iteF ?_⟩⟩
      have hge : 1 ≤ d := by
        have : (hT (.node ts) : Int) ≤ d := hdp
        simp only [hT] at this
        omega
      refine ⟨_, rfl, rfl, _, rfl, iteN (fun z => by cases z; omega) ?_⟩
      refine ⟨_, rfl, a, xs, rfl, .inr ha, ⟨_, 2, rfl, rfl, _, rfl, iteN (by omega) ?_⟩⟩
      refine ⟨_, rfl, a, rfl, ⟨xs, sq_at ha⟩, fun Dd hD => ?_⟩
      refine lc_map (n := xs.length) (fun _ => true) (fun _ => .bl true) hD hxl (fun i H1 hi hS => go_tup (hS _ _ ha) hi) (fun H1 hS => st_tup (hS _ _ ha) (Nat.le_refl _)) (fun i H1 x H2 Kt Kf hi hS hy hKt hKf => ?_) fun H1 hS hl => ⟨_, _, rfl, hl, _, rfl, iteF ?_⟩
      · obtain ⟨rfl, hx⟩ := hy
        obtain ⟨t, e2, tm, hd1⟩ := part_at hs (hx xs (sq_at (hS _ _ ha)))
        have ht1 := hTs_le tm
        have hnm := namesTs_mem tm
        refine ⟨rfl, _, rfl, _, rfl, d, 1, rfl, rfl, _, t, d - 1, rfl, hd1.up (Same.tk hS), TOks_iff.mp hoks t tm, ?_, ?_, by omega, fun H3 S3 => hKt rfl _ S3⟩
        · have : (hT (.node ts) : Int) ≤ d := hdp
          simp only [hT] at this
          omega
        · have : hT (.node ts) < h + 1 := hh
          simp only [hT] at this
          omega
      · refine ⟨_, rfl, a, rfl, ⟨xs, sq_at (hS _ _ ha)⟩, fun D2 hD2 => ?_⟩
        have sv : ∀ i, i < xs.length → ∃ t, ts[i]? = some t ∧ t ∈ ts ∧ ∀ x, xs[i]? = some x → DT H x (encT t) := fun i hi => by
          obtain ⟨t, e2, tm, hd1⟩ := part_at hs (List.getElem?_eq_getElem hi)
          refine ⟨t, e2, tm, fun x hx => ?_⟩
          rw [List.getElem?_eq_getElem hi] at hx
          cases hx
          exact hd1
        refine lc_map (n := xs.length) (fun _ => true) (fun i => .str (firstT (ts.getD i (.leaf "")))) hD2 hxl (fun i H2 hi hS2 => go_tup (hS2 _ _ (hS _ _ ha)) hi) (fun H2 hS2 => st_tup (hS2 _ _ (hS _ _ ha)) (Nat.le_refl _)) (fun i H2 x H3 Kt Kf hi hS2 hy hKt hKf => ?_) fun H2 hS2 hl2 => ?_
        · obtain ⟨rfl, hx⟩ := hy
          obtain ⟨t, e2, tm, hd1⟩ := sv i hi
          have hd2 := hd1 x (hx xs (sq_at (hS2 _ _ (hS _ _ ha))))
          refine ⟨rfl, _, rfl, _, t, rfl, hd2.up (Same.tk (Same.trans' hS hS2)), TOk.full t (TOks_iff.mp hoks t tm), ?_⟩
          have e3 : ts.getD i (.leaf "") = t := by rw [List.getD_eq_getElem?_getD, e2]; rfl
          rw [e3] at hKt
          exact hKt rfl _ (Same.refl' _)
        · rw [kept_all] at hl2
          refine ⟨_, rfl, D2, _, rfl, .inl hl2, 1, _, rfl, by rw [List.length_map, List.length_range]; omega, fun D3 hD3 => ?_⟩
          refine lc_map (n := ((((List.range xs.length).map fun i => V.str (firstT (ts.getD i (.leaf "")))).length : Int) - 1).toNat) (fun _ => true) (fun _ => .bl true) hD3 (by rw [List.length_map, List.length_range]; omega) (fun i H3 hi hS3 => hi) (fun H3 hS3 => Nat.le_refl _) (fun i H3 x H4 Kt Kf hi hS3 hy hKt hKf => ?_) fun H3 hS3 hl3 => ⟨_, _, rfl, hl3, q _ (Same.trans' hS (Same.trans' hS2 hS3))⟩
          obtain ⟨rfl, rfl⟩ := hy
          rw [List.length_map, List.length_range] at hi
          have at_ : ∀ j, j < xs.length → ((List.range xs.length).map fun i => V.str (firstT (ts.getD i (.leaf ""))))[j]? = some (.str (firstT (ts.getD j (.leaf "")))) := fun j hj => by
            rw [List.getElem?_map, List.getElem?_range hj]
            rfl
          have hlt : sLt (firstT (ts.getD i (.leaf ""))) (firstT (ts.getD (i + 1) (.leaf ""))) := by
            have z := List.pairwise_iff_getElem.mp hfs i (i + 1) (by rw [List.length_map]; omega) (by rw [List.length_map]; omega) (Nat.lt_succ_self i)
            rw [List.getElem_map, List.getElem_map] at z
            rw [List.getD_eq_getElem?_getD, List.getD_eq_getElem?_getD, List.getElem?_eq_getElem (show i < ts.length by omega), List.getElem?_eq_getElem (show i + 1 < ts.length by omega)]
            exact z
          refine ⟨rfl, _, rfl, _, rfl, _, 1, rfl, rfl, D2, _, (1 : Int) + i - 1, _, rfl, rfl, hS3 _ _ hl2, by rw [show (1 : Int) + i - 1 = ((i : Nat) : Int) by omega]; exact atI_nat (at_ i (by omega)), ?_⟩
          refine ⟨_, rfl, _, rfl, D2, _, (1 : Int) + i, _, rfl, rfl, hS3 _ _ hl2, by rw [show (1 : Int) + i = ((i + 1 : Nat) : Int) by omega]; exact atI_nat (at_ (i + 1) (by omega)), ?_⟩
          refine ⟨_, _, rfl, rfl, ?_⟩
          rw [decide_eq_true (show _ < _ from hlt)]
          exact hKt rfl _ (Same.refl' _)
end
end JT
/-! RuSet: sorted(set(list of ints)), len(set(list of texts)). -/
namespace JT
open PySem PySem.Spec PyProof.Rows L2
abbrev emptySetO (w : World) : Obj := { cls := .type "set", dict := none, data := .set #[] 0 (.fresh 0 0 (!w.params.followText "set-order")) }
section
variable {P : Program} {w : World} {A : Around} {E : Value → Shared → Prop} {s : Shared}
set_option maxHeartbeats 3200000 in
/-- set(list): J is what the loop over the list brings about -/
theorem call_set_listJ {l : Addr} {items : Array Value} {J : Heap → Prop} {Q : Value → Shared → Prop} (hh : A.handled = none) (hl : s.heap.IsList l items)
    (loop : ∀ (A' : Around) (I : Addr) (s1 : Shared) (R : Result → Shared → Prop), A'.in1.handled = none → l ≠ I → s.heap.objs.size ∉ [I, l] → s1.heap.get? s.heap.objs.size = some (emptySetO w) → (s1.heap.IsListIter I l 0 ∧ s1.heap.IsList l items) →
      (∀ s', Moved (s.heap.objs.size :: [I]) (fun a b => b = a) s1 s' → J s'.heap → R (.ok (.ret .none)) s') → codeAny (model P w) A' (.builtin "set.update.loop" ⟨[.ref s.heap.objs.size, .ref I], []⟩) R s1)
    (h : ∀ (h' : Heap) (tk : Nat), J h' → (∀ b o, s.heap.get? b = some o → h'.get? b = some o) → Q (.ref s.heap.objs.size) { s with heap := h', toks := tk }) :
    wpAny (model P w) A (call (.type "set") [.ref l]) Q E s := by
  obtain ⟨c, tl, hmro⟩ := F.called_set.mro
  have hmade := F.called_set.made
  have hsub := F.called_set.sub
  refine wpAny_call (codeAny_of_tree ?_)
  show wpAny _ _ (callAny (.type "set") _) _ _ _
  refine wpAny_pure ⟨Code.quiet_builtin _ (by decide +kernel), codeAny_builtin F.entry_type_call ?_⟩
  rw [Around.under_plain (weight_type_call_type "set" [.ref l] []) rfl]
  have h1 := F.called_set.notType
  have h2 := F.called_set.canCreate
  have hct := F.typeCall_set_1 (.ref l)
  repeat (any_goals (first | assumption | wp_step))
  refine codeAny_mono (code_set_led1 (.ref l) (E := E) (Q₁ := fun obj s₁ => obj = .ref s.heap.objs.size ∧ s₁ = { s with heap := s.heap.push (emptySetO w) }) ⟨rfl, rfl⟩) fun r s₁ hr => ?_
  cases r with
  | error e => exact hr
  | ok fl =>
    cases fl with
    | ret obj =>
      obtain ⟨rfl, rfl⟩ := hr
      have hS : (s.heap.push (emptySetO w)).get? s.heap.objs.size = some (emptySetO w) := Heap.get?_push_size _ rfl
      have hT : Shared.TypeIs { s with heap := s.heap.push (emptySetO w) } (.ref s.heap.objs.size) "set" := ⟨_, hS, rfl⟩
      have hli := F.called_set.init.lookup
      have hbi := F.called_set.init.bind (.ref s.heap.objs.size)
      repeat (any_goals (first | assumption | wp_step))
      refine codeAny_mono (codeAny_call_builtin (R := wants (fun r s₂ => r = .none ∧ ∃ h' tk, s₂ = { s with heap := h', toks := tk } ∧ J h' ∧
          (∀ b o, s.heap.get? b = some o → h'.get? b = some o)) E) F.called_set.init.plain F.entry_set_init (check_set_init_1 hT ?_)) fun r₂ s₂ hr₂ => ?_
      · obtain ⟨ol, hol, hcl, nl, hdl⟩ := hl
        obtain ⟨ocls, odict, odata, oslots⟩ := ol
        simp only at hcl hdl
        subst hcl; subst hdl
        have hol' : (s.heap.push (emptySetO w)).get? l = some { cls := .type "list", dict := odict, data := .seq items nl, slots := oslots } := Heap.get?_push_of_some _ hol
        have hsls := F.sub_list_set
        have hslf := F.sub_list_frozenset
        have hne : (Value.type "list" == Value.type "dict") = false := by decide
        have hl1 : (s.heap.push (emptySetO w)).IsList l items := ⟨_, hol', rfl, nl, rfl⟩
        unfold Builtin.«set.__init__» noKeywords Builtin.Frozenset.updateFrom
        generalize hPI : pyIter = PI
        wp_walk
        subst hPI
        refine wpAny_pyIter_list hl1 ?_
        refine wpAny_bind (wpAny_runValue ?_)
        have hlS : l < s.heap.objs.size := Heap.lt_size hol
        have hh3 : A.in1.in1.in1.handled = none := by simp [hh]
        have hz1 : (s.heap.push (emptySetO w)).objs.size = s.heap.objs.size + 1 := Heap.size_push ..
        have hneI : l ≠ (s.heap.push (emptySetO w)).objs.size := by
          rw [Heap.size_push]; exact Nat.ne_of_lt (Nat.lt_succ_of_lt hlS)
        have hSf : s.heap.objs.size ∉ [(s.heap.push (emptySetO w)).objs.size, l] := by
          rw [Heap.size_push]; simp only [List.mem_cons, List.mem_singleton, List.not_mem_nil, or_false, not_or]
          exact ⟨Nat.ne_of_lt (Nat.lt_succ_self _), Nat.ne_of_gt hlS⟩
        refine loop _ _ _ _ hh3 hneI hSf (Heap.get?_push_of_some _ hS) ⟨⟨_, Heap.get?_push_size _ rfl, rfl, rfl⟩, hl1.push _⟩ fun s' hm hS' => ?_
        obtain ⟨h', g2, d', tk', os'⟩ := s'
        have eg : g2 = s.gens := hm.gens
        have ed : d' = s.drawn := hm.drawn
        have eo : os' = s.os := hm.os
        subst eg; subst ed; subst eo
        show wpAny _ _ _ _ _ _
        refine wpAny_pure ?_
        show wpAny _ _ (ret Value.none) _ _ _
        refine wpAny_pure ⟨rfl, h', tk', rfl, hS', fun b o e => ?_⟩
        have hb0 : b < s.heap.objs.size := Heap.lt_size e
        have hb1 : b ≠ s.heap.objs.size := Nat.ne_of_lt hb0
        have hb2 : b ≠ (s.heap.push (emptySetO w)).objs.size := by
          rw [Heap.size_push]; exact Nat.ne_of_lt (Nat.lt_succ_of_lt hb0)
        exact hm.heap b o (by simp only [List.mem_cons, List.mem_singleton, List.not_mem_nil, or_false, not_or]; exact ⟨hb1, hb2⟩) (Heap.get?_push_of_some _ (Heap.get?_push_of_some _ e))
      · cases r₂ with
        | error e => exact hr₂
        | ok fl₂ =>
          cases fl₂ with
          | ret r =>
            obtain ⟨rfl, h', tk, rfl, hS', hk'⟩ := hr₂
            repeat (any_goals (first | assumption | wp_step))
            exact h _ _ hS' hk'
          | _ => exact hr₂.elim
    | _ => exact hr.elim
/-- the ints of a list in a set -/
theorem call_set_listI {l : Addr} {items : Array Value} (ns : List Int) {Q : Value → Shared → Prop} (hh : A.handled = none) (hl : s.heap.IsList l items) (hit : IntsAre items.toList ns) (hb : ns.length + 1 < scanBound)
    (h : ∀ (h' : Heap) (tk c : Nat), SetR w h' s.heap.objs.size (fun j => decide (j ∈ ns)) c → c ≤ ns.length → (∀ b o, s.heap.get? b = some o → h'.get? b = some o) → Q (.ref s.heap.objs.size) { s with heap := h', toks := tk }) :
    wpAny (model P w) A (call (.type "set") [.ref l]) Q E s := by
  have hisz : items.size = ns.length := by
    have q := IntsAre.length hit
    rw [Array.length_toList] at q
    exact q
  have hval : ∀ (i : Nat) (v : Value), items[i]? = some v → ∃ k t, ns[i]? = some k ∧ v = .int k t := fun i v hv => by
    have hi : i < ns.length := by rw [← hisz]; exact (Array.getElem?_eq_some_iff.mp hv).1
    obtain ⟨t, e⟩ := PyProof.Rows.IntsAre.int_at hit i v (by rw [Array.getElem?_toList]; exact hv)
    refine ⟨ns[i], t, List.getElem?_eq_getElem hi, ?_⟩
    rw [e, List.getD_eq_getElem?_getD, List.getElem?_eq_getElem hi] <;> rfl
  refine call_set_listJ (J := fun h' => ∃ c, c ≤ ns.length ∧ SetR w h' s.heap.objs.size (fun j => decide (j ∈ ns)) c) hh hl (fun A' I s1 R h3 hne hSf he st hR => ?_) fun h' tk ⟨c, hc, hS⟩ hk => h h' tk c hS hc hk
  refine set_update_ints ((Walks.list h3 _ l hne items).toS) s.heap.objs.size hSf ns hisz hb hval (items.size - 0) 0 _ (by omega) (Nat.zero_le _) st ⟨0, Nat.le_refl 0, setR_new_at he⟩ fun s' c hm hc hS => ?_
  exact hR s' hm ⟨c, by omega, hS⟩
end
end JT
namespace JT
open PySem PySem.Spec PyProof.Rows L2
section
variable {prog : Program} {w : World} {A : Around} {R : Result → Shared → Prop} {I : Addr} {fp wr : List Addr} {G : Array GenState → Array GenState → Prop} {n : Nat} {P : Nat → Value → Prop} {St : Nat → Shared → Prop}
theorem take_any_succ {xs : List Str} {i : Nat} {y : Str} (h : xs[i]? = some y) (k : Str) : (xs.take (i + 1)).any (· == k) = ((xs.take i).any (· == k) || decide (k = y)) := by
  rw [List.take_add_one, h, List.any_append]
  show ((xs.take i).any (· == k) || ((y == k) || false)) = _
  rw [Bool.or_false]
  congr 1
  by_cases e : k = y
  · subst e; simp
  · rw [decide_eq_false e]
    exact beq_eq_false_iff_ne.mpr fun h' => e h'.symm
theorem take_any_new {xs : List Str} (nd : xs.Nodup) {i : Nat} {y : Str} (h : xs[i]? = some y) : (xs.take i).any (· == y) = false := by
  cases hb : (xs.take i).any (· == y) with
  | false => rfl
  | true =>
    obtain ⟨z, hz, ez⟩ := List.any_eq_true.mp hb
    have ez : z = y := eq_of_beq ez
    subst ez
    obtain ⟨j, hj⟩ := List.mem_iff_getElem?.mp hz
    rw [List.getElem?_take] at hj
    split at hj
    · rename_i hji
      have := nd_ix nd hj h
      omega
    · cases hj
/-- texts that differ -/
theorem loopStrD (W : WalksS prog w A.in1 I fp wr G n P St) (S : Addr) (hSf : S ∉ fp) (xs : List Str) (hsz : n = xs.length) (nd : xs.Nodup) (hn1 : n + 1 < scanBound)
    (hval : ∀ i v, P i v → ∃ x t, xs[i]? = some x ∧ v = .str x t) :
    ∀ (k i : Nat) (s : Shared), n - i = k → i ≤ n → St i s →
      s.heap.SetOf (PySem.strKind prog w) S (fun k' => (xs.take i).any (· == k')) i →
      (∀ s', Moved (S :: wr) G s s' → s'.heap.SetOf (PySem.strKind prog w) S (fun k' => (xs.take n).any (· == k')) n → R (.ok (.ret .none)) s') →
      codeAny (model prog w) A (.builtin "set.update.loop" ⟨[.ref S, .ref I], []⟩) R s := by
  have hSw : S ∉ wr := fun h => hSf (W.sub _ h)
  have hsub : ∀ b ∈ wr, b ∈ S :: wr := fun b hb => List.mem_cons_of_mem _ hb
  intro k
  induction k with
  | zero =>
    intro i s hk hi hst hS hR
    have hin : i = n := by omega
    subst hin
    refine codeAny_builtin PyProof.Rows.F.entry_set_update_loop ?_
    rw [Around.under_plainId PyProof.Rows.F.plain_set_update_loop _]
    show wpAny _ A.in1 (pyNext (.ref I) >>= _) _ _ s
    refine wpAny_bind (W.done s _ _ hst fun s' hm => ?_)
    show wpAny _ A.in1 (ret Value.none) _ _ s'
    exact wpAny_pure (hR s' (hm.mono hsub) (by
      obtain ⟨o, es, ep, t, ho, rest⟩ := hS
      exact ⟨o, es, ep, t, hm.heap S _ hSw ho, rest⟩))
  | succ k ih =>
    intro i s hk hi hst hS hR
    have hlt : i < n := by omega
    refine codeAny_builtin PyProof.Rows.F.entry_set_update_loop ?_
    rw [Around.under_plainId PyProof.Rows.F.plain_set_update_loop _]
    show wpAny _ A.in1 (pyNext (.ref I) >>= _) _ _ s
    refine wpAny_bind (W.item i s _ _ hlt hst fun v s' hP hst' hm => ?_)
    obtain ⟨x, t, hx, rfl⟩ := hval i v hP
    have hS' : s'.heap.SetOf (PySem.strKind prog w) S (fun k' => (xs.take i).any (· == k')) i := by
      obtain ⟨o, es, ep, tb, ho, rest⟩ := hS
      exact ⟨o, es, ep, tb, hm.heap S _ hSw ho, rest⟩
    show wpAny _ A.in1 (holding [Value.str x t] (setAdd S (.str x t)) >>= _) _ _ s'
    refine wpAny_bind (wpAny_holding ?_)
    unfold setAdd
    refine wpAny_holding ?_
    refine wpAny_bind ((PySem.strKind prog w).pyHash (k := x) (strKind_is _ _ _ _) ?_)
    refine wpAny_setAddHashed_of (knd := PySem.strKind prog w) (s := { s' with toks := s'.toks + 1 }) (strKind_is _ _ _ _) rfl hS' (by omega) fun h' hsb hS2 => ?_
    have hSi : h'.SetOf (PySem.strKind prog w) S (fun k' => (xs.take (i + 1)).any (· == k')) (i + 1) := by
      refine SetOf_congr hS2 (fun k' => (take_any_succ hx k').symm) ?_
      show (if (xs.take i).any (· == x) = true then i else i + 1) = i + 1
      rw [take_any_new nd hx]
      exact if_neg Bool.false_ne_true
    refine wpAny_pure ⟨plainId_quiet PyProof.Rows.F.plain_set_update_loop _, ih (i + 1) _ (by omega) hlt (W.frame _ s' _ _ hst' (Nat.le_succ _) fun b hb o e => ?_) hSi fun s'' hm'' hS'' => ?_⟩
    · rw [hsb.2 b (fun h : b = S => hSf (by rw [← h]; exact hb))]; exact e
    · refine hR s'' (Moved.trans W.gtrans ((hm.mono hsub).then_heap (Nat.le_succ _) fun b o hb e => ?_) hm'') hS''
      rw [hsb.2 b (fun h : b = S => hb (by rw [h]; exact List.mem_cons_self))]; exact e
end
section
variable {P : Program} {w : World} {A : Around} {E : Value → Shared → Prop} {s : Shared}
theorem call_set_listD {l : Addr} {items : Array Value} (xs : List Str) {Q : Value → Shared → Prop} (hh : A.handled = none) (hl : s.heap.IsList l items) (hit : StrsAre items.toList xs) (nd : xs.Nodup) (hb : xs.length + 1 < scanBound)
    (h : ∀ (h' : Heap) (tk : Nat), h'.SetOf (PySem.strKind P w) s.heap.objs.size (fun k' => (xs.take xs.length).any (· == k')) xs.length → (∀ b o, s.heap.get? b = some o → h'.get? b = some o) → Q (.ref s.heap.objs.size) { s with heap := h', toks := tk }) :
    wpAny (model P w) A (call (.type "set") [.ref l]) Q E s := by
  have hisz : items.size = xs.length := by
    have q := StrsAre.length hit
    rw [Array.length_toList] at q
    exact q
  have hval : ∀ (i : Nat) (v : Value), items[i]? = some v → ∃ k t, xs[i]? = some k ∧ v = .str k t := fun i v hv => by
    have hi : i < xs.length := by rw [← hisz]; exact (Array.getElem?_eq_some_iff.mp hv).1
    obtain ⟨t, e⟩ := SS.strs_at hit i v (by rw [Array.getElem?_toList]; exact hv)
    refine ⟨xs[i], t, List.getElem?_eq_getElem hi, ?_⟩
    rw [e, List.getD_eq_getElem?_getD, List.getElem?_eq_getElem hi] <;> rfl
  refine call_set_listJ (J := fun h' => h'.SetOf (PySem.strKind P w) s.heap.objs.size (fun k' => (xs.take xs.length).any (· == k')) xs.length) hh hl (fun A' I s1 R h3 hne hSf he st hR => ?_) fun h' tk hS hk => h h' tk hS hk
  refine loopStrD ((Walks.list h3 _ l hne items).toS) s.heap.objs.size hSf xs hisz nd (by rw [hisz]; exact hb) hval (items.size - 0) 0 _ (by omega) (Nat.zero_le _) st ?_ fun s' hm hS => ?_
  · exact ⟨_, #[], 0, _, he, ⟨rfl, rfl, rfl⟩, rfl, (fun e he => by simp at he), (fun k => by simp), (by decide), (by rfl), rfl⟩
  · rw [hisz] at hS
    exact hR s' hm hS
end
theorem strsAre_vals : ∀ {ys : List Str} {us : List Value}, Vals (ys.map V.str) us → StrsAre us ys := fun r => strsAre_of r
def tLenSetD (K : PySem.W.Frag) (ta : TE) : TE := fun σ H Q => ta σ H fun x H1 => ∃ (l : Addr) (xs : List Str), x = .ref l ∧ SqL K H1 l (xs.map V.str) ∧ xs.Nodup ∧ xs.length ≤ 1000 ∧ Q (.int xs.length) H1
theorem pe_lenSetD {X : Cx} {a : Expr} {ta : TE} {p p2 q pos : Pos} (hg : Gl X "len") (hm : X.mg "len" = none) (hg2 : Gl X "set") (hm2 : X.mg "set" = none) (ha : PE X a ta) (hc : X.calm = true := by rfl)
    (na : starEach [a] X.env = (false, eval a X.env) :: starEach [] X.env := by rfl) : PE X (.Call (.Name "len" p) [.Call (.Name "set" p2) [a] [] q] [] pos) (tLenSetD X.K ta) := by
  refine ⟨fun pins s σ H Q I h => ?_⟩
  refine Call_ (ld_blt I hg hm boot_len ?_)
  refine PyProof.Rows.callWith_builtin1 (PyProof.Rows.args_cons ?_ rfl) rfl rfl
  refine Call_ (ld_blt I hg2 hm2 boot_set ?_)
  refine PyProof.Rows.callWith_type1 (PyProof.Rows.args_cons (thn (ha.run pins s σ H _ I h) fun v s1 ⟨x, H1, I1, r1, q1⟩ => PyProof.Rows.args_nil ?_) na) na rfl
  obtain ⟨l, xs, rfl, hq, nd, hl, q1⟩ := q1
  cases r1
  obtain ⟨its, r, pl, hz⟩ := I1.list hq
  refine call_set_listD xs (I1.ok.hd hc) pl.isList (by simpa using strsAre_vals r) nd (by unfold scanBound; omega) fun h' tk hS hk => ?_
  refine PyProof.Rows.args_nil ?_
  obtain ⟨o, es, ep, t, ho, hex, hd, _, _, _, hf, hn⟩ := hS
  have I2 : Inv X pins σ H1 { s1 with heap := h', toks := tk } := I1.kept fun b o e => hk b o e
  exact call_len_set ho hex hd hf (by rw [hn] <;> omega) ⟨.int xs.length, H1, I2.tok _, ⟨_, by rw [hn]⟩, q1⟩
/-- sorted(set(l)), l a list of ints: the set's own object is tracked at D -/
def tSortSetI (K : PySem.W.Frag) (w : World) (ta : TE) : TE := fun σ H Q => ta σ H fun x H1 => ∃ (l : Addr) (ns : List Int), x = .ref l ∧ SqL K H1 l (ns.map V.int) ∧ ns.length < 64 ∧
  ∀ (D : Addr) (o : HO), H1 D = none → (∀ ps, o ≠ .tbl ps) → ∀ (ns' : List Int) (p : Addr), ns'.Pairwise (· < ·) → (∀ k : Int, k ∈ ns' ↔ k ∈ ns) → upd H1 D o p = none → Q (.ref p) (upd (upd H1 D o) p (.lst (ns'.map V.int)))
theorem pe_sortSetI {X : Cx} {a : Expr} {ta : TE} {p p2 q pos : Pos} (hg : Gl X "sorted") (hm : X.mg "sorted" = none) (hg2 : Gl X "set") (hm2 : X.mg "set" = none) (ha : PE X a ta) (hc : X.calm = true := by rfl)
    (na : starEach [a] X.env = (false, eval a X.env) :: starEach [] X.env := by rfl) : PE X (.Call (.Name "sorted" p) [.Call (.Name "set" p2) [a] [] q] [] pos) (tSortSetI X.K X.w ta) := by
  refine ⟨fun pins s σ H Q I h => ?_⟩
  refine Call_ (ld_blt I hg hm (show bootBuiltins "sorted" = some (.builtin "sorted") by decide +kernel) ?_)
  refine PyProof.Rows.callWith_builtin1 (PyProof.Rows.args_cons ?_ rfl) rfl rfl
  refine Call_ (ld_blt I hg2 hm2 boot_set ?_)
  refine PyProof.Rows.callWith_type1 (PyProof.Rows.args_cons (thn (ha.run pins s σ H _ I h) fun v s1 ⟨x, H1, I1, r1, q1⟩ => PyProof.Rows.args_nil ?_) na) na rfl
  obtain ⟨l, ns, rfl, hq, hl, q1⟩ := q1
  cases r1
  obtain ⟨its, r, pl, hz⟩ := I1.list hq
  refine call_set_listI ns (I1.ok.hd hc) pl.isList (by simpa using r.ints) (by unfold scanBound; omega) fun h' tk c hS hcl hk => ?_
  refine PyProof.Rows.args_nil ?_
  have hf : H1 s1.heap.objs.size = none := I1.hok.fresh (Nat.le_refl _)
  have I2 : Inv X pins σ (upd H1 s1.heap.objs.size (SetO X.w s1.heap.objs.size (fun j => decide (j ∈ ns)) c)) { s1 with heap := h', toks := tk } :=
    I1.laid (t' := tk) (fun b o e => hk b o e) (Nat.le_refl _) (setO_new hS)
  refine cr_sortedSet hc pins _ σ _ [.ref s1.heap.objs.size] _ Q I2 (.cons rfl .nil) ⟨s1.heap.objs.size, _, c, rfl, upd_same, by omega, fun ns' p h1 h2 h3 np => ?_⟩
  exact q1 _ _ hf (fun ps z => by unfold SetO at z; cases z) ns' p h1 (fun k => (h2 k).trans (by simp)) np
end JT
/-! W3: the defs of trees. -/
namespace JT
open PySem PySem.Spec PyProof.Rows L2 PySem.W
abbrev s_is_tree : Stmt := topS 14
abbrev n_is_tree : List Str := ["thing", "names"]
theorem sc_is_tree : FnScope n_is_tree ["thing"] (defScope s_is_tree) :=
  ⟨rfl, rfl, rfl, by decide +kernel, rfl, by decide +kernel, by decide +kernel⟩
abbrev s_fork_of : Stmt := topS 15
abbrev n_fork_of : List Str := ["parts"]
theorem sc_fork_of : FnScope n_fork_of ["parts"] (defScope s_fork_of) :=
  ⟨rfl, rfl, rfl, by decide +kernel, rfl, by decide +kernel, by decide +kernel⟩
abbrev s_ordered : Stmt := topS 16
abbrev n_ordered : List Str := ["thing", "part"]
theorem sc_ordered : FnScope n_ordered ["thing"] (defScope s_ordered) :=
  ⟨rfl, rfl, rfl, by decide +kernel, rfl, by decide +kernel, by decide +kernel⟩
abbrev s_set_right : Stmt := topS 17
abbrev n_set_right : List Str := ["thing", "found"]
theorem sc_set_right : FnScope n_set_right ["thing"] (defScope s_set_right) :=
  ⟨rfl, rfl, rfl, by decide +kernel, rfl, by decide +kernel, by decide +kernel⟩
section
variable {P : Program} {w : World} {K : PySem.W.Frag} {mg : Str → Option Value} {base : Heap}
def spIsTree : Sp := fun vs H Q _ => ∃ v t, vs = [v] ∧ DT H v (encT t) ∧ TOk t ∧ (namesT t).Nodup ∧ (namesT t).length ≤ 10 ∧ ∀ H', Same H H' → Q (.bl true) H'
theorem c_is_tree (T : Top mg) (D : Def K mg "is_tree" "is_tree" s_is_tree) (C_is_fork_trees : ∀ h, Cal P w K mg base (h + 1) "is_fork_trees" (spForkT h)) (C_standing : ∀ h, Cal P w K mg base (h + 1) "standing" (spStanding h)) : Cal P w K mg base 12 "is_tree" spIsTree := by
  have C_is_fork_trees := C_is_fork_trees 10
  have C_standing := C_standing 10
  refine D.cal sc_is_tree (fun _ _ _ _ _ _ us hl => match us, hl with | [_], _ => rfl) (fun vs H Q E h => ?_) fun f cdv A outer s H vs Q E hr hsp => ?_
  · obtain ⟨_, _, rfl, _⟩ := h; rfl
  have hu := hu_of hr
  refine ⟨_, (pss_cons (ps_if (pt_not (pt_val (pe_f C_is_fork_trees hr rfl (pa_cons (pv 0) (pa_cons (pe_ci rfl T.MOST_DEEP) pa_nil))))) (pss_one (ps_ret pe_bl)) pss_nil)
    (pss_cons (ps_set (i := 1) sc_is_tree.nd rfl (Or.inl rfl) (pe_f C_standing hr rfl (pa_cons (pv 0) pa_nil)))
    (pss_one (ps_ret (pe_and (pe_cmpR op_le (pe_callB lenq rfl T.len PySem.boot_len (pa_cons (pv 1) pa_nil)) (pe_ci rfl T.MOST_NAMES) (nomark _)) (pe_one (pe_cmpR op_eq (pe_lenSetD rfl T.len rfl T.set (pv 1)) (pe_callB lenq rfl T.len PySem.boot_len (pa_cons (pv 1) pa_nil)) (nomark _)))))))), ?_⟩
  obtain ⟨v, t, rfl, hd, hok, hnd, hn, q⟩ := hsp
  have hh := TOk.height t hok
  refine ⟨_, rfl, v, t, 9, rfl, hd, hok, by omega, by omega, by omega, fun H1 S1 => ⟨_, rfl, iteF ?_⟩⟩
  refine ⟨_, rfl, v, t, rfl, hd.up (Same.tk S1), by omega, by omega, fun H2 l S2 l0 hl => ?_⟩
  refine ⟨_, rfl, l, _, rfl, .inl hl, ⟨_, 10, rfl, rfl, _, rfl, iteP (by rw [List.length_map]; omega) ?_⟩⟩
  refine ⟨_, rfl, l, namesT t, rfl, sl_at hl, hnd, by omega, ?_⟩
  refine ⟨_, rfl, l, _, rfl, .inl hl, rfl, bl_true ?_ (q _ (Same.trans' S1 S2))⟩
  rw [List.length_map]
  exact decide_eq_true rfl
/-- parts joined to one tree -/
def Joined (ts : List Tree) (u : Tree) : Prop := (∃ t, ts = [t] ∧ u = t) ∨ (2 ≤ ts.length ∧ ∃ us : List Tree, us.Perm ts ∧ (us.map firstT).Pairwise sLt ∧ u = .node us)
def spForkOf : Sp := fun vs H Q _ => ∃ a xs ts, vs = [.ref a] ∧ H a = some (.lst xs) ∧ DTs H xs (encTs ts) ∧ ts ≠ [] ∧ Fulls ts ∧ (ts.map firstT).Nodup ∧ ts.length ≤ 1000 ∧ ∀ H' v u, Same H H' → DT H' v (encT u) → Joined ts u → Q v H'
theorem c_fork_of (T : Top mg) (D : Def K mg "fork_of" "fork_of" s_fork_of) (C_first_name : Cal P w K mg base 1 "first_name" spFirst) : Cal P w K mg base 4 "fork_of" spForkOf := by
  refine D.cal sc_fork_of (fun _ _ _ _ _ _ us hl => match us, hl with | [_], _ => rfl) (fun vs H Q E h => ?_) fun f cdv A outer s H vs Q E hr hsp => ?_
  · obtain ⟨_, _, _, rfl, _⟩ := h; rfl
  have hu := hu_of hr
  refine ⟨_, (pss_cons (ps_if (pt_cmpR op_eq (pe_callB lenq rfl T.len PySem.boot_len (pa_cons (pv 0) pa_nil)) pe_int (nomark _)) (pss_one (ps_ret (pe_ix ixl (pv 0) pe_int (fun _ _ => rfl)))) pss_nil)
    (pss_one (ps_ret (pe_callTy tupOf rfl T.tuple (by decide +kernel) (pa_cons (pe_sortedKF C_first_name hr rfl T.sorted rfl (pv 0)) pa_nil))))), ?_⟩
  obtain ⟨a, xs, ts, rfl, ha, hs, hne, hf, hnd, hl, q⟩ := hsp
  have hlen : xs.length = ts.length := hs.length.trans (encTs_length ts)
  refine ⟨_, rfl, a, xs, rfl, .inl ha, ⟨rfl, _, rfl, ?_⟩⟩
  by_cases h1 : xs.length = 1
  · refine iteP (by rw [h1]; rfl) ?_
    obtain ⟨x, rfl⟩ := List.length_eq_one_iff.mp h1
    obtain ⟨t, rfl⟩ := List.length_eq_one_iff.mp (hlen.symm.trans h1)
    cases hs with
    | cons h0 _ =>
      exact ⟨_, rfl, a, _, 0, x, rfl, rfl, ha, atI_nat (j := 0) rfl, q _ _ _ (Same.refl' _) h0 (.inl ⟨t, rfl, rfl⟩)⟩
  · refine iteN (fun z => h1 (by injection z with z; omega)) ?_
    have mem := trees_mem hs
    have hm := treeOf_map hs
    have full : ∀ v ∈ xs, Full (treeOf H v) := fun v hv => by
      have : treeOf H v ∈ ts := by
        rw [← hm]
        exact List.mem_map_of_mem hv
      exact Fulls_iff.mp hf _ this
    refine ⟨_, rfl, a, xs, fun v => .str (firstT (treeOf H v)), rfl, sl_at ha, ?_, ?_, ?_, ?_, fun p H1 S1 p0 hp => ?_⟩
    · intro d hd d' hd'
      obtain ⟨x, _, rfl⟩ := List.mem_map.mp hd
      obtain ⟨y, _, rfl⟩ := List.mem_map.mp hd'
      rfl
    · refine .inr fun d hd => ?_
      obtain ⟨x, _, rfl⟩ := List.mem_map.mp hd
      exact ⟨by simp, fun _ => by simp⟩
    · intro x hx
      exact Nat.zero_le _
    · intro x hx H2 S2
      exact ⟨x, treeOf H x, rfl, (mem x hx).up (Same.tk S2), full x hx, Same.refl' _, .inl ⟨_, rfl, rfl⟩⟩
    · obtain ⟨us, pu, fu, du⟩ := sort_first hs hnd
      refine ⟨p, _, rfl, hp, fun l hl => ?_⟩
      refine q _ _ (.node us) (Same.trans' S1 (same_upd hl)) (.tup upd_same (du.up (TK.trans (Same.tk S1) (tk_new hl)))) (.inr ⟨?_, us, pu, fu, rfl⟩)
      have : ts.length ≠ 0 := fun z => hne (List.length_eq_zero_iff.mp z)
      omega
def spOrdered (h : Nat) : Sp := fun vs H Q _ => ∃ v t, vs = [v] ∧ DT H v (encT t) ∧ Full t ∧ (∀ n ∈ namesT t, NameOk n) ∧ (namesT t).Nodup ∧ (namesT t).length ≤ 1000 ∧ hT t ≤ 60 ∧ hT t < h ∧ ∀ H' v' u, Same H H' → DT H' v' (encT u) → Ord t u → Q v' H'
theorem fulls_len : ∀ {ts : List Tree}, Fulls ts → ts.length ≤ (namesTs ts).length
  | [], _ => Nat.zero_le _
  | t :: ts, h => by
    have a := names_pos t h.1
    have b := fulls_len h.2
    simp only [namesTs, List.length_append, List.length_cons]
    omega
theorem namesTs_in {ts : List Tree} {t : Tree} (h : t ∈ ts) {n : Str} (hn : n ∈ namesT t) : n ∈ namesTs ts := by
  rw [namesTs_flat]
  exact List.mem_flatMap.mpr ⟨t, h, hn⟩
theorem names_nodup_mem : ∀ {ts : List Tree} {t : Tree}, t ∈ ts → (namesTs ts).Nodup → (namesT t).Nodup
  | u :: ts, t, h, hn => by
    obtain ⟨h1, h2, _⟩ := List.nodup_append.mp (show (namesT u ++ namesTs ts).Nodup from hn)
    rcases List.mem_cons.mp h with e | h
    · subst e
      exact h1
    · exact names_nodup_mem h h2
theorem c_ordered (T : Top mg) (D : Def K mg "ordered" "ordered" s_ordered) (C_is_name : Cal P w K mg base 1 "is_name" spIsName) (C_fork_of : Cal P w K mg base 4 "fork_of" spForkOf) : ∀ h, Cal P w K mg base (h + 4) "ordered" (spOrdered h)
  | 0 => (dummy D sc_ordered (fun _ _ _ _ _ _ us hl => match us, hl with | [_], _ => rfl) fun _ _ _ _ ⟨_, _, _, _, _, _, _, _, _, h, _⟩ => Nat.not_lt_zero _ h).mono (by decide)
  | h + 1 => by
    have C_ordered : Cal P w K mg base (h + 4) "ordered" (spOrdered h) := c_ordered T D C_is_name C_fork_of h
    have C_is_name := C_is_name.mono (show 1 ≤ h + 4 by omega)
    have C_fork_of := C_fork_of.mono (show 4 ≤ h + 4 by omega)
    refine D.cal sc_ordered (fun _ _ _ _ _ _ us hl => match us, hl with | [_], _ => rfl) (fun vs H Q E h => ?_) fun f cdv A outer s H vs Q E hr hsp => ?_
    · obtain ⟨_, _, rfl, _⟩ := h; rfl
    have hu := hu_of hr
    have hu64 := hu64_of hr
    refine ⟨_, (pss_cons (ps_if (pt_val (pe_f C_is_name hr rfl (pa_cons (pv 0) pa_nil))) (pss_one (ps_ret (pv 0))) pss_nil)
    (pss_cons (ps_if (PW.pt (pw_or (pt_not (pt_val (pe_isi (T := "tuple") rfl T.isinstance rfl T.tuple (by decide +kernel) (pv 0)))) (pw_or1 (pt_cmpR (eqd hu64) (pv 0) (pe_tup pa_nil) (nomark _))))) (pss_one ps_never) pss_nil)
    (pss_one (ps_ret (pe_f C_fork_of hr rfl (pa_cons (pe_lc (own := [("part", 1)]) (g := gName 1) (tt := tYes) rfl sc_ordered.nd (pi_tupK K (pv 0)) (blkOk_by (own := [("part", 1)]) (N := n_ordered) (sc := defScope s_ordered) (by decide +kernel)) (fun _ _ _ _ _ => (pg_name (i := 1) sc_ordered.nd rfl (Or.inl rfl))) (fun _ _ _ _ _ => pts_nil) (fun _ _ _ _ _ => (pe_f C_ordered hr rfl (pa_cons (pv 1) pa_nil)))) pa_nil)))))), ?_⟩
    obtain ⟨v, t, rfl, hd, hf, hno, hnd, hn, h60, hh, q⟩ := hsp
    cases t with
    | leaf z =>
      rw [hd.of_str]
      refine ⟨_, rfl, .inl ⟨z, rfl, hno z (by simp [namesT]), fun H1 S1 => ⟨_, rfl, iteT ⟨_, rfl, q _ _ _ S1 (.str z) (.leaf z)⟩⟩⟩⟩
    | node ts =>
      obtain ⟨a, xs, rfl, ha, hs⟩ := DT.of_tup hd
      have hlen : xs.length = ts.length := hs.length.trans (encTs_length ts)
      obtain ⟨hne, hfs⟩ := hf
      have hn' : (namesTs ts).length ≤ 1000 := hn
      have hxl : ts.length ≤ 1000 := Nat.le_trans (fulls_len hfs) hn'
      have hnd' : (namesTs ts).Nodup := hnd
      refine ⟨_, rfl, .inr ⟨a, xs, rfl, ha, ⟨_, rfl, iteF ?_⟩⟩⟩
      refine ⟨_, rfl, _, _, .tup ha, k_tt, ⟨_, rfl, iteF ?_⟩⟩
      refine ⟨_, rfl, Nat.zero_le _, fun p np => ⟨encT (.node ts), encT (.node []), .inl (hd.up (tk_new np)), .inl (.tup upd_same .nil), shaped_encT hno h60, by decide, ?_⟩⟩
      refine ⟨_, rfl, ?_⟩
      have e0 : PyData.eqv (encT (.node ts)) (encT (.node [])) = false := by
        cases ts with
        | nil => exact absurd rfl hne
        | cons t ts => simp [encT, encTs, PyData.eqv, PyData.eqvAll]
      simp only [e0]
      refine iteF ?_
      have S0 : Same H (upd H p (.tup [])) := same_upd np
      refine ⟨_, rfl, a, rfl, ⟨xs, sq_at (S0 _ _ ha)⟩, fun Dd hD => ?_⟩
      refine lc_rel (n := xs.length) (fun i y H1 => ∃ t u, ts[i]? = some t ∧ Ord t u ∧ DT H1 y (encT u)) (fun i y H1 H2 k ⟨t, u, e, o, d⟩ => ⟨t, u, e, o, d.up k⟩) hD (by omega) (fun i H1 hi hS => go_tup (hS _ _ (S0 _ _ ha)) hi) (fun H1 hS => st_tup (hS _ _ (S0 _ _ ha)) (Nat.le_refl _)) (fun i H1 x H2 Kt Kf hi hS hy hKt => ?_) fun H1 ys hS hl hyl hR => ?_
      · obtain ⟨rfl, hx⟩ := hy
        have SH := Same.trans' S0 hS
        obtain ⟨t, e2, tm, hd1⟩ := part_at hs (hx xs (sq_at (SH _ _ ha)))
        have ht1 := hTs_le tm
        have hh' : hTs ts + 1 < h + 1 := hh
        have h60' : hTs ts + 1 ≤ 60 := h60
        exact ⟨rfl, _, rfl, x, t, rfl, hd1.up (Same.tk SH), Fulls_iff.mp hfs t tm, fun n hn => hno n (namesTs_in tm hn), names_nodup_mem tm hnd', Nat.le_trans (namesTs_mem tm) hn', by omega, by omega, fun H3 y u S3 du o => hKt y H3 S3 ⟨t, u, e2, o, du⟩⟩
      · have SH := Same.trans' S0 hS
        have hex : ∃ us : List Tree, us.length = ys.length ∧ ∀ (i : Nat) (y : V) (u : Tree), ys[i]? = some y → us[i]? = some u → DT H1 y (encT u) ∧ ∀ t, ts[i]? = some t → Ord t u := by
          refine ⟨ys.map (treeOf H1), by rw [List.length_map], fun i y u e1 e2 => ?_⟩
          obtain ⟨t, u', e3, o, du⟩ := hR i y e1
          rw [List.getElem?_map, e1] at e2
          cases e2
          rw [treeOf_eq du]
          exact ⟨du, fun t' e4 => by rw [e3] at e4; cases e4; exact o⟩
        obtain ⟨us, hul, hus⟩ := hex
        have dus : DTs H1 ys (encTs us) := DTs.of_get (by rw [encTs_length, hul]) fun i y d e1 e2 => by
          rw [encTs_map, List.getElem?_map] at e2
          obtain ⟨u, e3, rfl⟩ := Option.map_eq_some_iff.mp e2
          exact (hus i y u e1 e3).1
        have ous : Ords ts us := Ords.of_get (by rw [hul, hyl, hlen]) fun i t u e1 e2 => by
          have hi := (List.getElem?_eq_some_iff.mp e2).1
          exact (hus i _ u (List.getElem?_eq_getElem (show i < ys.length by omega)) e2).2 t e1
        have pn := Ords.names ts us ous
        have okus := Ords.ok ts us ous fun n h => hno n h
        have fus := TOks.full us okus
        have ndu : (namesTs us).Nodup := pn.nodup_iff.mpr hnd'
        refine ⟨Dd, ys, us, rfl, hl, dus, fun z => ?_, fus, firsts_nodup fus ndu, by rw [hul, hyl, hlen]; omega, fun H2 v u S2 du hj => q _ _ u (Same.trans' SH S2) du ?_⟩
        · have := ous.length
          rw [z] at this
          exact hne (List.length_eq_zero_iff.mp this)
        · rcases hj with ⟨t, e, rfl⟩ | ⟨h2, us', pu, fu, rfl⟩
          · subst e
            cases ous with
            | cons a b =>
              cases b
              exact .one a
          · exact .many (by rw [ous.length]; exact h2) ous pu fu
def spSetRight : Sp := fun vs H Q _ => ∃ v t, vs = [v] ∧ DT H v (encT t) ∧ Full t ∧ (∀ n ∈ namesT t, NameOk n) ∧ (namesT t).Nodup ∧ (namesT t).length ≤ 10 ∧ hT t ≤ 39 ∧ ∀ H' v' u, Same H H' → DT H' v' (encT u) → Ord t u → TOk u → Q v' H'
theorem c_set_right (T : Top mg) (D : Def K mg "set_right" "set_right" s_set_right) (C_is_tree : Cal P w K mg base 12 "is_tree" spIsTree) (C_ordered : ∀ h, Cal P w K mg base (h + 4) "ordered" (spOrdered h)) : Cal P w K mg base 45 "set_right" spSetRight := by
  have C_is_tree := C_is_tree.mono (show 12 ≤ 44 by decide)
  have C_ordered := C_ordered 40
  refine D.cal sc_set_right (fun _ _ _ _ _ _ us hl => match us, hl with | [_], _ => rfl) (fun vs H Q E h => ?_) fun f cdv A outer s H vs Q E hr hsp => ?_
  · obtain ⟨_, _, rfl, _⟩ := h; rfl
  have hu := hu_of hr
  refine ⟨_, (pss_cons (ps_set (i := 1) sc_set_right.nd rfl (Or.inl rfl) (pe_f C_ordered hr rfl (pa_cons (pv 0) pa_nil)))
    (pss_cons (ps_if (pt_not (pt_val (pe_f C_is_tree hr rfl (pa_cons (pv 1) pa_nil)))) (pss_one ps_never) pss_nil)
    (pss_one (ps_ret (pv 1))))), ?_⟩
  obtain ⟨v, t, rfl, hd, hf, hno, hnd, hn, hh, q⟩ := hsp
  refine ⟨_, rfl, v, t, rfl, hd, hf, hno, hnd, by omega, by omega, by omega, fun H1 v1 u S1 du o => ?_⟩
  have hok := Ord.ok t u o hno
  have pn := Ord.names t u o
  exact ⟨_, rfl, v1, u, rfl, du, hok, pn.nodup_iff.mpr hnd, by rw [pn.length_eq]; exact hn, fun H2 S2 => ⟨_, rfl, iteF ⟨_, rfl, q _ _ u (Same.trans' S1 S2) (du.up (Same.tk S2)) o hok⟩⟩⟩
end
end JT
/-! Mat2: nets. -/
namespace JT
open PySem PySem.Spec PyProof.Rows L2 PySem.W
inductive Row where
  | leaf (s : Str)
  | fork (ks : List Nat)
  | join (k : Nat)
abbrev Net := List Row
def Row.kids : Row → List Nat
  | .leaf _ => []
  | .fork ks => ks
  | .join k => [k]
def Row.tag : Row → Str
  | .leaf _ => "leaf"
  | .fork _ => "fork"
  | .join _ => "join"
def Row.isJoin : Row → Bool
  | .join _ => true
  | _ => false
def Row.isLeaf : Row → Bool
  | .leaf _ => true
  | _ => false
def Row.name? : Row → Option Str
  | .leaf s => some s
  | _ => none
def natV (k : Nat) : V := .int (k : Int)
def natD (k : Nat) : PyData := .int (k : Int)
def encWhat : Row → PyData
  | .leaf s => .str s
  | .fork ks => .tuple (ks.map natD)
  | .join k => natD k
def encR (r : Row) : PyData := .tuple [.str r.tag, encWhat r]
def encN (N : Net) : PyData := .tuple (N.map encR)
def kidsAt (N : Net) (i : Nat) : List Nat := match N[i]? with
  | some r => r.kids
  | none => []
theorem kidsAt_some {N : Net} {i : Nat} {r : Row} (h : N[i]? = some r) : kidsAt N i = r.kids := by
  unfold kidsAt
  rw [h]
theorem kidsAt_none {N : Net} {i : Nat} (h : N.length ≤ i) : kidsAt N i = [] := by
  unfold kidsAt
  rw [List.getElem?_eq_none h]
/-- the parents that the edges es give k, in turn -/
def waysOf (es : List (Nat × Nat)) (k : Nat) : List Nat := (es.filter fun e => e.2 == k).map (·.1)
theorem waysOf_nil (k : Nat) : waysOf [] k = [] := rfl
theorem waysOf_snoc (es : List (Nat × Nat)) (i j k : Nat) : waysOf (es ++ [(i, j)]) k = waysOf es k ++ if j = k then [i] else [] := by
  unfold waysOf
  rw [List.filter_append, List.map_append]
  by_cases h : j = k <;> simp [h]
def edgesTo (N : Net) (i : Nat) : List (Nat × Nat) := (List.range i).flatMap fun i => (kidsAt N i).map fun k => (i, k)
def edges (N : Net) : List (Nat × Nat) := edgesTo N N.length
def ways (N : Net) (k : Nat) : List Nat := waysOf (edges N) k
theorem edgesTo_succ (N : Net) (i : Nat) : edgesTo N (i + 1) = edgesTo N i ++ (kidsAt N i).map fun k => (i, k) := by
  unfold edgesTo
  rw [List.range_succ, List.flatMap_append]
  simp
theorem mem_edgesTo {N : Net} {n i k : Nat} : (i, k) ∈ edgesTo N n ↔ i < n ∧ k ∈ kidsAt N i := by
  unfold edgesTo
  rw [List.mem_flatMap]
  constructor
  · rintro ⟨j, hj, h⟩
    obtain ⟨k', hk, e⟩ := List.mem_map.mp h
    cases e
    exact ⟨List.mem_range.mp hj, hk⟩
  · rintro ⟨h, hk⟩
    exact ⟨i, List.mem_range.mpr h, List.mem_map.mpr ⟨k, hk, rfl⟩⟩
theorem mem_waysOf {es : List (Nat × Nat)} {i k : Nat} : i ∈ waysOf es k ↔ (i, k) ∈ es := by
  unfold waysOf
  rw [List.mem_map]
  constructor
  · rintro ⟨⟨a, b⟩, h, rfl⟩
    rw [List.mem_filter] at h
    obtain ⟨h1, h2⟩ := h
    simp only [beq_iff_eq] at h2
    subst h2
    exact h1
  · intro h
    exact ⟨(i, k), List.mem_filter.mpr ⟨h, by simp⟩, rfl⟩
theorem kidsAt_lt {N : Net} {i k : Nat} (h : k ∈ kidsAt N i) : i < N.length := by
  refine Nat.lt_of_not_le fun z => ?_
  rw [kidsAt_none z] at h
  cases h
theorem mem_ways {N : Net} {i k : Nat} : i ∈ ways N k ↔ k ∈ kidsAt N i := by
  unfold ways edges
  rw [mem_waysOf, mem_edgesTo]
  exact ⟨fun h => h.2, fun h => ⟨kidsAt_lt h, h⟩⟩
def names (N : Net) : List Str := N.filterMap Row.name?
def joins (N : Net) : List Nat := (List.range N.length).filter fun i => match N[i]? with
  | some r => r.isJoin
  | none => false
/-- how many parents the row i wants -/
def dueWays (N : Net) (i : Nat) : Nat := if i = 0 then 0 else match N[i]? with
  | some (.join _) => 2
  | _ => 1
/-- what all nets of this law share, whatever their numbers -/
structure Loose (N : Net) : Prop where
  pos : 1 ≤ N.length
  len : N.length ≤ 49
  lt : ∀ i k, k ∈ kidsAt N i → k < N.length
  two : ∀ (i : Nat) (ks : List Nat), N[i]? = some (Row.fork ks) → 2 ≤ ks.length ∧ ks.Nodup
  led : ∀ k, k < N.length → (ways N k).length = dueWays N k
  root : ∀ k : Nat, N[0]? ≠ some (Row.join k)
  nameOk : ∀ s ∈ JT.names N, NameOk s
  nd : (JT.names N).Nodup
  few : (JT.names N).length ≤ 10
  jfew : (JT.joins N).length ≤ 6
  rank : ∃ ρ : Nat → Nat, ∀ i k, k ∈ kidsAt N i → ρ i < ρ k
/-- numbered downwards, kids in rising order -/
structure Good (N : Net) : Prop extends Loose N where
  down : ∀ i k, k ∈ kidsAt N i → i < k
  rise : ∀ (i : Nat) (ks : List Nat), N[i]? = some (Row.fork ks) → ks.Pairwise (· < ·)
/-! ### reading a net in the heap -/
section
variable {H : Hp} {v : V} {N : Net}
theorem net_at (h : DT H v (encN N)) : ∃ a xs, v = .ref a ∧ H a = some (.tup xs) ∧ xs.length = N.length ∧ ∀ (i : Nat) (x : V), xs[i]? = some x → ∃ r, N[i]? = some r ∧ DT H x (encR r) := by
  obtain ⟨a, xs, rfl, ha, hs⟩ := h.of_tup
  refine ⟨a, xs, rfl, ha, by rw [hs.length, List.length_map], fun i x hx => ?_⟩
  obtain ⟨d, e, hd⟩ := hs.get hx
  rw [List.getElem?_map] at e
  obtain ⟨r, e2, rfl⟩ := Option.map_eq_some_iff.mp e
  exact ⟨r, e2, hd⟩
theorem row_at {r : Row} (h : DT H v (encR r)) : ∃ a y, v = .ref a ∧ H a = some (.tup [.str r.tag, y]) ∧ DT H y (encWhat r) := by
  obtain ⟨a, xs, rfl, ha, hs⟩ := h.of_tup
  cases hs with
  | cons h1 t =>
    cases t with
    | cons h2 t =>
      cases t
      rw [h1.of_str] at ha
      exact ⟨a, _, rfl, ha, h2⟩
theorem DTs.of_nats : ∀ {vs : List V} {zs : List Nat}, DTs H vs (zs.map natD) → vs = zs.map natV
  | _, [], h => by cases h; rfl
  | _, z :: zs, h => by
    cases h with
    | cons h t => rw [h.of_int, t.of_nats]; rfl
theorem DTs.nats : ∀ (zs : List Nat), DTs H (zs.map natV) (zs.map natD)
  | [] => .nil
  | z :: zs => .cons (.int _) (DTs.nats zs)
theorem fork_at {ks : List Nat} (h : DT H v (encWhat (.fork ks))) : ∃ a, v = .ref a ∧ H a = some (.tup (ks.map natV)) := by
  obtain ⟨a, xs, rfl, ha, hs⟩ := DT.of_tup h
  rw [hs.of_nats] at ha
  exact ⟨a, rfl, ha⟩
theorem row_mk {r : Row} {a : Addr} {y : V} (h : H a = some (.tup [.str r.tag, y])) (hy : DT H y (encWhat r)) : DT H (.ref a) (encR r) := .tup h (.cons (.str _) (.cons hy .nil))
end
theorem tag_leaf {r : Row} : r.tag = "leaf" ↔ r.isLeaf = true := by
  cases r <;> simp [Row.tag, Row.isLeaf] <;> decide
theorem tag_join {r : Row} : r.tag = "join" ↔ r.isJoin = true := by
  cases r <;> simp [Row.tag, Row.isJoin] <;> decide
/-! ### dicts -/
theorem nodup_le {α : Type} : ∀ {l m : List α}, l.Nodup → (∀ x ∈ l, x ∈ m) → l.length ≤ m.length
  | [], _, _, _ => Nat.zero_le _
  | a :: l, m, hn, h => by
    obtain ⟨ha, hl⟩ := List.nodup_cons.mp hn
    obtain ⟨s, t, e⟩ := List.append_of_mem (h a (by simp))
    subst e
    have z := nodup_le (m := s ++ t) hl fun x hx => by
      have q := h x (by simp [hx])
      have ne : x ≠ a := fun e => ha (by rw [← e]; exact hx)
      simp only [List.mem_append, List.mem_cons] at q ⊢
      rcases q with q | q | q
      · exact .inl q
      · exact absurd q ne
      · exact .inr q
    simp only [List.length_append, List.length_cons] at z ⊢
    omega
section
variable {κ : Type} [DecidableEq κ]
theorem keys_put {kvs : List (κ × V)} {k : κ} {v : V} (h : (valV kvs k).isSome = true) : (putK kvs k v).map (·.1) = kvs.map (·.1) := by
  unfold putK
  rw [valV_any, h, if_pos rfl, List.map_map]
  apply List.map_congr_left
  intro p hp
  show (if p.1 = k then (p.1, v) else p).1 = p.1
  split <;> rfl
theorem nd_put {kvs : List (κ × V)} (k : κ) (v : V) (hn : (kvs.map (·.1)).Nodup) : ((putK kvs k v).map (·.1)).Nodup := by
  cases h : valV kvs k with
  | none => exact L2.nd_putK v hn h
  | some y =>
    rw [keys_put (by rw [h]; rfl)]
    exact hn
theorem mem_keys {kvs : List (κ × V)} {k : κ} : k ∈ kvs.map (·.1) ↔ (valV kvs k).isSome = true := by
  constructor
  · intro h
    cases e : valV kvs k with
    | none => exact absurd h (L2.valV_not e)
    | some v => rfl
  · intro h
    obtain ⟨v, e⟩ := Option.isSome_iff_exists.mp h
    exact L2.valV_in e
theorem mem_put {kvs : List (κ × V)} {k j : κ} {v : V} : j ∈ (putK kvs k v).map (·.1) ↔ j = k ∨ j ∈ kvs.map (·.1) := by
  rw [mem_keys, mem_keys, valV_put]
  by_cases h : j = k <;> simp [h]
end
end JT
/-! N1: the defs of nets. -/
namespace JT
open PySem PySem.Spec PyProof.Rows L2 PySem.W
abbrev s_is_number : Stmt := topS 22
abbrev n_is_number : List Str := ["thing", "least", "limit"]
theorem sc_is_number : FnScope n_is_number ["thing", "least", "limit"] (defScope s_is_number) :=
  ⟨rfl, rfl, rfl, by decide +kernel, rfl, by decide +kernel, by decide +kernel⟩
abbrev s_is_pair : Stmt := topS 23
abbrev n_is_pair : List Str := ["thing", "word"]
theorem sc_is_pair : FnScope n_is_pair ["thing", "word"] (defScope s_is_pair) :=
  ⟨rfl, rfl, rfl, by decide +kernel, rfl, by decide +kernel, by decide +kernel⟩
abbrev s_is_leaf : Stmt := topS 24
abbrev n_is_leaf : List Str := ["thing"]
theorem sc_is_leaf : FnScope n_is_leaf ["thing"] (defScope s_is_leaf) :=
  ⟨rfl, rfl, rfl, by decide +kernel, rfl, by decide +kernel, by decide +kernel⟩
abbrev s_is_fork_nets : Stmt := topS 25
abbrev n_is_fork_nets : List Str := ["thing", "at", "many", "kids", "kid", "k"]
theorem sc_is_fork_nets : FnScope n_is_fork_nets ["thing", "at", "many"] (defScope s_is_fork_nets) :=
  ⟨rfl, rfl, rfl, by decide +kernel, rfl, by decide +kernel, by decide +kernel⟩
abbrev s_is_row : Stmt := topS 27
abbrev n_is_row : List Str := ["thing", "at", "many"]
theorem sc_is_row : FnScope n_is_row ["thing", "at", "many"] (defScope s_is_row) :=
  ⟨rfl, rfl, rfl, by decide +kernel, rfl, by decide +kernel, by decide +kernel⟩
abbrev s_kids_of : Stmt := topS 28
abbrev n_kids_of : List Str := ["row", "word", "what"]
theorem sc_kids_of : FnScope n_kids_of ["row"] (defScope s_kids_of) :=
  ⟨rfl, rfl, rfl, by decide +kernel, rfl, by decide +kernel, by decide +kernel⟩
section
variable {P : Program} {w : World} {K : PySem.W.Frag} {mg : Str → Option Value} {base : Heap}
def spIsNumber : Sp := fun vs H Q _ => ∃ n a b : Int, vs = [.int n, .int a, .int b] ∧ a ≤ n ∧ n < b ∧ Q (.bl true) H
theorem c_is_number (T : Top mg) (D : Def K mg "is_number" "is_number" s_is_number) : Cal P w K mg base 1 "is_number" spIsNumber := by
  refine D.cal sc_is_number (fun _ _ _ _ _ _ us hl => match us, hl with | [_, _, _], _ => rfl) (fun vs H Q E h => ?_) fun f cdv A outer s H vs Q E hr hsp => ?_
  · obtain ⟨_, _, _, rfl, _⟩ := h; rfl
  refine ⟨_, (pss_one (ps_ret (pe_and (pe_isi (T := "int") rfl T.isinstance rfl T.int (by decide +kernel) (pv 0)) (pe_and (pe_not (pe_isi (T := "bool") rfl T.isinstance rfl T.bool (by decide +kernel) (pv 0))) (pe_one (pe_chain op_le op_lt (pv 1) (pv 0) (pv 2))))))), ?_⟩
  obtain ⟨n, a, b, rfl, h1, h2, q⟩ := hsp
  refine ⟨_, rfl, _, _, .int n, k_ii, _, rfl, iteT ⟨_, rfl, _, _, .int n, k_ib, ⟨_, rfl, ⟨_, rfl, iteT ?_⟩⟩⟩⟩
  exact ⟨_, rfl, _, rfl, a, n, rfl, rfl, _, rfl, iteP h1 ⟨_, rfl, n, b, rfl, rfl, bl_true (decide_eq_true h2) q⟩⟩
def spIsPair : Sp := fun vs H Q _ => ∃ v r z, vs = [v, .str z] ∧ DT H v (encR r) ∧ Q (.bl (decide (r.tag = z))) H
theorem c_is_pair (T : Top mg) (D : Def K mg "is_pair" "is_pair" s_is_pair) : Cal P w K mg base 1 "is_pair" spIsPair := by
  refine D.cal sc_is_pair (fun _ _ _ _ _ _ us hl => match us, hl with | [_, _], _ => rfl) (fun vs H Q E h => ?_) fun f cdv A outer s H vs Q E hr hsp => ?_
  · obtain ⟨_, _, _, rfl, _⟩ := h; rfl
  refine ⟨_, (pss_one (ps_ret (pe_and (pe_isi (T := "tuple") rfl T.isinstance rfl T.tuple (by decide +kernel) (pv 0)) (pe_and (pe_cmpR op_eq (pe_callB lenq rfl T.len PySem.boot_len (pa_cons (pv 0) pa_nil)) pe_int (nomark _)) (pe_and (pe_isi (T := "str") rfl T.isinstance rfl T.str (by decide +kernel) (pe_ix ixt (pv 0) pe_int (fun _ _ => rfl))) (pe_one (pe_cmpR op_eq (pe_ix ixt (pv 0) pe_int (fun _ _ => rfl)) (pv 1) (nomark _)))))))), ?_⟩
  obtain ⟨v, r, z, rfl, hd, q⟩ := hsp
  obtain ⟨a, y, rfl, ha, hy⟩ := row_at hd
  refine ⟨_, rfl, _, _, .tup ha, k_tt, _, rfl, iteT ⟨_, rfl, a, _, rfl, .inr ha, rfl, _, rfl, iteT ?_⟩⟩
  refine ⟨_, rfl, a, _, 0, _, rfl, rfl, ha, atI_nat (j := 0) rfl, _, _, .str _, k_ss, _, rfl, iteT ?_⟩
  refine ⟨_, rfl, a, _, 0, _, rfl, rfl, ha, atI_nat (j := 0) rfl, _, rfl, rfl, ?_⟩
  have e : decide (V.str r.tag = V.str z) = decide (r.tag = z) := by simp
  rw [e]
  exact q
def spIsLeaf : Sp := fun vs H Q _ => ∃ v r, vs = [v] ∧ DT H v (encR r) ∧ (∀ s, r = .leaf s → NameOk s) ∧ ∀ H', Same H H' → Q (.bl r.isLeaf) H'
theorem c_is_leaf (T : Top mg) (D : Def K mg "is_leaf" "is_leaf" s_is_leaf) (C_is_pair : Cal P w K mg base 1 "is_pair" spIsPair) (C_is_name : Cal P w K mg base 1 "is_name" spIsName) : Cal P w K mg base 2 "is_leaf" spIsLeaf := by
  refine D.cal sc_is_leaf (fun _ _ _ _ _ _ us hl => match us, hl with | [_], _ => rfl) (fun vs H Q E h => ?_) fun f cdv A outer s H vs Q E hr hsp => ?_
  · obtain ⟨_, _, rfl, _⟩ := h; rfl
  refine ⟨_, (pss_one (ps_ret (pe_and (pe_f C_is_pair hr rfl (pa_cons (pv 0) (pa_cons pe_str pa_nil))) (pe_one (pe_f C_is_name hr rfl (pa_cons (pe_ix ixt (pv 0) pe_int (fun _ _ => rfl)) pa_nil)))))), ?_⟩
  obtain ⟨v, r, rfl, hd, hn, q⟩ := hsp
  refine ⟨_, rfl, v, r, "leaf", rfl, hd, _, rfl, ?_⟩
  cases r with
  | leaf z =>
    refine iteP rfl ?_
    obtain ⟨a, y, rfl, ha, hy⟩ := row_at hd
    rw [show y = .str z from DT.of_str hy] at ha
    exact ⟨_, rfl, a, _, 1, _, rfl, rfl, ha, atI_nat (j := 1) rfl, .inl ⟨z, rfl, hn z rfl, q⟩⟩
  | fork ks => exact iteN (by simp [Row.tag]; decide) (q _ (Same.refl' _))
  | join k => exact iteN (by simp [Row.tag]; decide) (q _ (Same.refl' _))
def spIsForkN : Sp := fun vs H Q _ => ∃ v ks i n, vs = [v, .int i, .int n] ∧ DT H v (encR (.fork ks)) ∧ 2 ≤ ks.length ∧ ks.length ≤ 1000 ∧ ks.Pairwise (· < ·) ∧ (∀ k ∈ ks, i < (k : Int) ∧ (k : Int) < n) ∧ ∀ H', Same H H' → Q (.bl true) H'
theorem nats_len (ks : List Nat) : (ks.map natV).length = ks.length := List.length_map _
theorem nats_at {ks : List Nat} {j : Nat} (h : j < ks.length) : (ks.map natV)[j]? = some (natV ks[j]) := by
  rw [List.getElem?_map, List.getElem?_eq_getElem h]
  rfl
theorem c_is_fork_nets (T : Top mg) (D : Def K mg "is_fork_nets" "is_fork" s_is_fork_nets) (C_is_pair : Cal P w K mg base 1 "is_pair" spIsPair) (C_is_number : Cal P w K mg base 1 "is_number" spIsNumber) : Cal P w K mg base 2 "is_fork_nets" spIsForkN := by
  refine D.cal sc_is_fork_nets (fun _ _ _ _ _ _ us hl => match us, hl with | [_, _, _], _ => rfl) (fun vs H Q E h => ?_) fun f cdv A outer s H vs Q E hr hsp => ?_
  · obtain ⟨_, _, _, _, rfl, _⟩ := h; rfl
  refine ⟨_, (pss_cons (ps_if (PW.pt (pw_or (pt_not (pt_val (pe_f C_is_pair hr rfl (pa_cons (pv 0) (pa_cons pe_str pa_nil))))) (pw_or (pt_not (pt_val (pe_isi (T := "tuple") rfl T.isinstance rfl T.tuple (by decide +kernel) (pe_ix ixt (pv 0) pe_int (fun _ _ => rfl))))) (pw_or1 (pt_cmpR op_lt (pe_callB lenq rfl T.len PySem.boot_len (pa_cons (pe_ix ixt (pv 0) pe_int (fun _ _ => rfl)) pa_nil)) pe_int (nomark _)))))) (pss_one (ps_ret pe_bl)) pss_nil)
    (pss_cons (ps_set (i := 3) sc_is_fork_nets.nd rfl (Or.inr rfl) (pe_ix ixt (pv 0) pe_int (fun _ _ => rfl)))
    (pss_cons (ps_if (pt_not (pt_val (pe_callB (allq rfl) rfl T.all (by decide +kernel) (pa_cons (pe_lc (own := [("kid", 4)]) (g := gName 4) (tt := tYes) rfl sc_is_fork_nets.nd (pi_tupK K (pv 3)) (blkOk_by (own := [("kid", 4)]) (N := n_is_fork_nets) (sc := defScope s_is_fork_nets) (by decide +kernel)) (fun _ _ _ _ _ => (pg_name (i := 4) sc_is_fork_nets.nd rfl (Or.inl rfl))) (fun _ _ _ _ _ => pts_nil) (fun _ _ _ _ _ => (pe_f C_is_number hr rfl (pa_cons (pv 4) (pa_cons (pe_op op_add (pv 1) pe_int) (pa_cons (pv 2) pa_nil)))))) pa_nil)))) (pss_one (ps_ret pe_bl)) pss_nil)
    (pss_one (ps_ret (pe_callB (allq rfl) rfl T.all (by decide +kernel) (pa_cons (pe_lc (own := [("k", 5)]) (g := gName 5) (tt := tYes) rfl sc_is_fork_nets.nd (pi_range2 rfl T.range (pa_cons pe_int (pa_cons (pe_callB lenq rfl T.len PySem.boot_len (pa_cons (pv 3) pa_nil)) pa_nil))) (blkOk_by (own := [("k", 5)]) (N := n_is_fork_nets) (sc := defScope s_is_fork_nets) (by decide +kernel)) (fun _ _ _ _ _ => (pg_name (i := 5) sc_is_fork_nets.nd rfl (Or.inl rfl))) (fun _ _ _ _ _ => pts_nil) (fun _ _ _ _ _ => (pe_cmpR op_lt (pe_ix ixt (pv 3) (pe_op op_sub (pv 5) pe_int) (fun _ _ => rfl)) (pe_ix ixt (pv 3) (pv 5) (fun _ _ => rfl)) (nomark _)))) pa_nil))))))), ?_⟩
  obtain ⟨v, ks, i, n, rfl, hd, h2, hl, hs, hk, q⟩ := hsp
  obtain ⟨a, y, rfl, ha, hy⟩ := row_at hd
  obtain ⟨b, rfl, hb⟩ := fork_at hy
  refine ⟨_, rfl, _, _, "fork", rfl, hd, _, rfl, iteF ?_⟩
  refine ⟨_, rfl, a, _, 1, _, rfl, rfl, ha, atI_nat (j := 1) rfl, _, _, .tup hb, k_tt, _, rfl, iteF ?_⟩
  refine ⟨_, rfl, a, _, 1, _, rfl, rfl, ha, atI_nat (j := 1) rfl, b, _, rfl, .inr hb, _, 2, rfl, rfl, _, rfl, iteN (by rw [nats_len]; omega) ?_⟩
  refine ⟨_, rfl, a, _, 1, _, rfl, rfl, ha, atI_nat (j := 1) rfl, ?_⟩
  refine ⟨_, rfl, b, rfl, ⟨_, sq_at hb⟩, fun Dd hD => ?_⟩
  refine lc_map (n := ks.length) (fun _ => true) (fun _ => .bl true) hD (by omega) (fun j H1 hj hS => go_tup (hS _ _ hb) (by rw [nats_len]; exact hj)) (fun H1 hS => st_tup (hS _ _ hb) (by rw [nats_len]; exact Nat.le_refl _)) (fun j H1 x H2 Kt Kf hj hS hy hKt hKf => ?_) fun H1 hS hl1 => ⟨_, _, rfl, hl1, _, rfl, iteF ?_⟩
  · obtain ⟨rfl, hx⟩ := hy
    have hx := hx _ (sq_at (hS _ _ hb))
    rw [nats_at hj] at hx
    cases hx
    have z := hk ks[j] (List.getElem_mem hj)
    refine ⟨rfl, _, rfl, _, rfl, i, 1, rfl, rfl, _, rfl, _, _, n, rfl, by omega, z.2, hKt rfl _ (Same.refl' _)⟩
  · refine ⟨_, rfl, b, _, rfl, .inr (hS _ _ hb), 1, _, rfl, by rw [nats_len]; omega, fun D3 hD3 => ?_⟩
    refine lc_map (n := (((ks.map natV).length : Int) - 1).toNat) (fun _ => true) (fun _ => .bl true) hD3 (by rw [nats_len]; omega) (fun j H3 hj hS3 => hj) (fun H3 hS3 => Nat.le_refl _) (fun j H3 x H4 Kt Kf hj hS3 hy hKt hKf => ?_) fun H3 hS3 hl3 => ⟨_, _, rfl, hl3, q _ (Same.trans' hS hS3)⟩
    obtain ⟨rfl, rfl⟩ := hy
    rw [nats_len] at hj
    have hb3 := hS3 _ _ (hS _ _ hb)
    refine ⟨rfl, _, rfl, _, rfl, _, 1, rfl, rfl, b, _, (1 : Int) + j - 1, _, rfl, rfl, hb3, by rw [show (1 : Int) + j - 1 = ((j : Nat) : Int) by omega]; exact atI_nat (nats_at (show j < ks.length by omega)), ?_⟩
    refine ⟨_, rfl, _, rfl, b, _, (1 : Int) + j, _, rfl, rfl, hb3, by rw [show (1 : Int) + j = ((j + 1 : Nat) : Int) by omega]; exact atI_nat (nats_at (show j + 1 < ks.length by omega)), ?_⟩
    refine ⟨_, _, rfl, rfl, ?_⟩
    have z := List.pairwise_iff_getElem.mp hs j (j + 1) (by omega) (by omega) (Nat.lt_succ_self j)
    show Kt (.bl (decide ((ks[j] : Int) < (ks[j + 1] : Int)))) H4
    exact bl_true (decide_eq_true (by omega)) (hKt rfl _ (Same.refl' _))
def RowOk (i n : Nat) : Row → Prop
  | .leaf s => NameOk s
  | .fork ks => 2 ≤ ks.length ∧ ks.length ≤ 1000 ∧ ks.Pairwise (· < ·) ∧ ∀ k ∈ ks, i < k ∧ k < n
  | .join k => i < k ∧ k < n
def spIsRow : Sp := fun vs H Q _ => ∃ v r, ∃ i n : Nat, vs = [v, .int i, .int n] ∧ DT H v (encR r) ∧ RowOk i n r ∧ ∀ H', Same H H' → Q (.bl true) H'
theorem c_is_row (T : Top mg) (D : Def K mg "is_row" "is_row" s_is_row) (C_is_pair : Cal P w K mg base 1 "is_pair" spIsPair) (C_is_number : Cal P w K mg base 1 "is_number" spIsNumber) (C_is_leaf : Cal P w K mg base 2 "is_leaf" spIsLeaf) (C_is_fork_nets : Cal P w K mg base 2 "is_fork_nets" spIsForkN) : Cal P w K mg base 3 "is_row" spIsRow := by
  have C_is_pair := C_is_pair.mono (show 1 ≤ 2 by decide)
  have C_is_number := C_is_number.mono (show 1 ≤ 2 by decide)
  refine D.cal sc_is_row (fun _ _ _ _ _ _ us hl => match us, hl with | [_, _, _], _ => rfl) (fun vs H Q E h => ?_) fun f cdv A outer s H vs Q E hr hsp => ?_
  · obtain ⟨_, _, _, _, rfl, _⟩ := h; rfl
  refine ⟨_, (pss_cons (ps_if (pt_val (pe_f C_is_pair hr rfl (pa_cons (pv 0) (pa_cons pe_str pa_nil)))) (pss_one (ps_ret (pe_f C_is_number hr rfl (pa_cons (pe_ix ixt (pv 0) pe_int (fun _ _ => rfl)) (pa_cons (pe_op op_add (pv 1) pe_int) (pa_cons (pv 2) pa_nil)))))) pss_nil)
    (pss_one (ps_ret (pe_or (pe_f C_is_leaf hr rfl (pa_cons (pv 0) pa_nil)) (pe_one (pe_f C_is_fork_nets hr rfl (pa_cons (pv 0) (pa_cons (pv 1) (pa_cons (pv 2) pa_nil))))))))), ?_⟩
  obtain ⟨v, r, i, n, rfl, hd, hok, q⟩ := hsp
  refine ⟨_, rfl, v, r, "join", rfl, hd, _, rfl, ?_⟩
  cases r with
  | leaf z =>
    refine iteN (by simp [Row.tag]; decide) ?_
    exact ⟨_, rfl, v, _, rfl, hd, (fun s e => by cases e; exact hok), fun H1 S1 => ⟨_, rfl, iteT (q _ S1)⟩⟩
  | fork ks =>
    refine iteN (by simp [Row.tag]; decide) ?_
    exact ⟨_, rfl, v, _, rfl, hd, (fun s e => by cases e), fun H1 S1 => ⟨_, rfl, iteF ⟨_, rfl, _, rfl, _, rfl, v, ks, _, _, rfl, hd.up (Same.tk S1), hok.1, hok.2.1, hok.2.2.1, (fun k hk => by have := hok.2.2.2 k hk; omega), fun H2 S2 => q _ (Same.trans' S1 S2)⟩⟩⟩
  | join k =>
    refine iteP rfl ?_
    obtain ⟨a, y, rfl, ha, hy⟩ := row_at hd
    rw [show y = natV k from DT.of_int hy] at ha
    have := hok.1
    have := hok.2
    exact ⟨_, rfl, a, _, 1, _, rfl, rfl, ha, atI_nat (j := 1) rfl, _, rfl, (i : Int), 1, rfl, rfl, _, rfl, k, (i : Int) + 1, n, rfl, by omega, by omega, q _ (Same.refl' _)⟩
def spKidsOf : Sp := fun vs H Q _ => ∃ v r, vs = [v] ∧ DT H v (encR r) ∧ ∀ H' p, Same H H' → H' p = some (.tup (r.kids.map natV)) → Q (.ref p) H'
theorem c_kids_of (T : Top mg) (D : Def K mg "kids_of" "kids_of" s_kids_of) : Cal P w K mg base 1 "kids_of" spKidsOf := by
  refine D.cal sc_kids_of (fun _ _ _ _ _ _ us hl => match us, hl with | [_], _ => rfl) (fun vs H Q E h => ?_) fun f cdv A outer s H vs Q E hr hsp => ?_
  · obtain ⟨_, _, rfl, _⟩ := h; rfl
  refine ⟨_, (pss_cons (ps_asg (pv 0) (pgt (n := 2) rfl (pgs_cons (pg_name (i := 1) sc_kids_of.nd rfl (Or.inl rfl)) (pgs_cons (pg_name (i := 2) sc_kids_of.nd rfl (Or.inl rfl)) pgs_nil))))
    (pss_cons (ps_if (pt_cmpR op_eq (pv 1) pe_str (nomark _)) (pss_one (ps_ret (pe_tup pa_nil))) pss_nil)
    (pss_one (ps_ret (pe_ifExp (pt_cmpR op_eq (pv 1) pe_str (nomark _)) (pv 2) (pe_tup (pa_cons (pv 2) pa_nil))))))), ?_⟩
  obtain ⟨v, r, rfl, hd, q⟩ := hsp
  obtain ⟨a, y, rfl, ha, hy⟩ := row_at hd
  refine ⟨_, rfl, a, _, rfl, ha, rfl, ?_⟩
  refine ⟨_, _, rfl, _, _, rfl, rfl, _, rfl, rfl, _, rfl, ?_⟩
  cases r with
  | leaf z => exact iteP rfl ⟨Nat.zero_le _, fun p np => q _ p (same_upd np) upd_same⟩
  | fork ks =>
    obtain ⟨b, rfl, hb⟩ := fork_at hy
    exact iteN (by simp [Row.tag]; decide) ⟨_, rfl, rfl, _, rfl, iteP rfl ⟨_, rfl, q _ b (Same.refl' _) hb⟩⟩
  | join k =>
    rw [show y = natV k from DT.of_int hy]
    exact iteN (by simp [Row.tag]; decide) ⟨_, rfl, rfl, _, rfl, iteN (by simp [Row.tag]; decide) ⟨_, rfl, small (show 1 ≤ 10000 by decide), fun p np => q _ p (same_upd np) upd_same⟩⟩
end
end JT
/-! RuEnum: enumerate of a tuple. -/
namespace JT
open PySem PySem.Spec PyProof.Rows L2
theorem meets_enumerate_newB1 {v : Value} {o : Obj} {H : Heap → Prop} (B : Begins v o H) :
    Meets (Builtin.«enumerate.__new__» ⟨[.type "enumerate", v], []⟩) (fun _ R s => H s.heap ∧
      R (.ok (.ret (.ref (s.heap.push o).objs.size))) { s with heap := (s.heap.push o).push { cls := .type "enumerate", data := .fields #[.none, .bool false, .ref s.heap.objs.size, rawInt 0, .none, .none] } }) :=
  .of_wp fun prog w A R s h => by
    obtain ⟨hp, g, d, tk, os⟩ := s; obtain ⟨h1, h⟩ := h
    have hsub := sub_enumerate
    have q1 : ∀ {A' : Around} {E : Value → Shared → Prop} {Q : Value → Shared → Prop}, Q (.ref hp.objs.size) ⟨hp.push o, g, d, tk, os⟩ → wpAny (model prog w) A' (pyIter v) Q E ⟨hp, g, d, tk, os⟩ :=
      fun q => B.iter prog w _ _ ⟨hp, g, d, tk, os⟩ _ h1 q
    wp_walk using q1
    refine wpAny_stack_any fun st => wpAny_pure ?_
    split
    · rename_i c _ _ _ _ _
      cases (c == Value.type "enumerate")
      · wp_walk using q1
        exact ⟨_, rfl, h⟩
      · wp_walk using q1
        exact ⟨_, rfl, h⟩
    · wp_walk using q1
      exact ⟨_, rfl, h⟩
theorem enum_begins1 {prog : Program} {w : World} {A : Around} {E : Value → Shared → Prop} {s : Shared} {v : Value} {o : Obj} {H : Heap → Prop} {Q : Value → Shared → Prop} (B : Begins v o H) (h1 : H s.heap)
    (h : ∀ h', IsEnum h' (s.heap.objs.size + 1) s.heap.objs.size 0 .none → h'.get? s.heap.objs.size = some o → h'.objs.size = s.heap.objs.size + 2 →
      (∀ b o, s.heap.get? b = some o → h'.get? b = some o) → Q (.ref (s.heap.objs.size + 1)) { s with heap := h' }) :
    wpAny (model prog w) A (call (.type "enumerate") [v]) Q E s := by
  refine callType_new F.called_enumerate (by decide) (F.typeCall_enumerate_1 _) (F.newCall_enumerate_1 _) (fun obj => F.args_object_init_2 obj _) F.entry_enumerate_new
    (meets_enumerate_newB1 B) ⟨h1, ?_⟩
  have hz : (s.heap.push o).objs.size = s.heap.objs.size + 1 := Heap.size_push ..
  show _ ∧ _
  rw [hz]
  have he : IsEnum ((s.heap.push o).push { cls := .type "enumerate", data := .fields #[.none, .bool false, .ref s.heap.objs.size, rawInt 0, .none, .none] }) (s.heap.objs.size + 1) s.heap.objs.size 0 .none := by
    have := Heap.get?_push_size (s.heap.push o) (o := { cls := .type "enumerate", data := .fields #[.none, .bool false, .ref s.heap.objs.size, rawInt 0, .none, .none] }) rfl
    rw [hz] at this; exact this
  refine ⟨⟨_, he, rfl⟩, h _ he (Heap.get?_push_of_some _ (Heap.get?_push_size _ B.free)) (by rw [Heap.size_push, hz]) fun b o x => Heap.get?_push_of_some _ (Heap.get?_push_of_some _ x)⟩

/-- the tuple at a as it stands at each turn, each item in a new pair -/
def IteT (K : PySem.W.Frag) (a : Addr) : It :=
  ⟨fun i H => ∃ (xs : List V) (x : V), SqT K H a xs ∧ xs[i]? = some x, fun i H v H' => ∃ T x, v = .ref T ∧ H T = none ∧ H' = upd H T (.tup [.int (i : Nat), x]) ∧ ∀ xs, SqT K H a xs → xs[i]? = some x, fun i H => ∃ xs : List V, SqT K H a xs ∧ xs.length ≤ i⟩
theorem turn_enumT {P : Program} {w : World} {K : PySem.W.Frag} {elts : List Expr} {kk : Nat} {tpos : Pos} (a e it : Addr) :
    Turn P w K (.Tuple elts kk tpos) (IteT K a) [e, it] e (fun i h => (∃ old, IsEnum h e it ((i : Nat) : Int) old) ∧ h.IsTupleIter it a i ∧ e ≠ it ∧ a ≠ it ∧ e ≠ a) where
  mem := by simp
  obj := fun i h st b hb => by
    obtain ⟨⟨old, he⟩, ⟨o, ho, hc, hd⟩, _⟩ := st
    have e' : b = e ∨ b = it := by simpa using hb
    rcases e' with z | z
    · rw [z]; exact ⟨_, he, fun v q => nomatch q⟩
    · rw [z]; exact ⟨o, ho, fun v q => by rw [hd] at q; cases q⟩
  keep := fun i h h' st k => let ⟨⟨old, he⟩, hi, hne⟩ := st; ⟨⟨old, k e (by simp) _ he⟩, hi.at fun o q => k it (by simp) o q, hne⟩
  item := by
    intro X hP hw hK hc i pins s σ H E I hf st hg
    subst hP hw hK
    obtain ⟨⟨old, he⟩, hit, hne, hai, hea⟩ := st
    obtain ⟨xs, x, hq, hx⟩ := hg
    obtain ⟨its, rv, p, hz⟩ := I.tuple hq
    obtain ⟨u, hu, ru⟩ := rv.get hx
    have hel : e < s.heap.objs.size := Heap.lt_size he
    have hil : it < s.heap.objs.size := by obtain ⟨_, q, _⟩ := hit; exact Heap.lt_size q
    have D := Draws.tuple (prog := X.prog) (w := X.w) (A := X.A.in1) (I.ok.hd hc) it a hai its.toArray
    have hlt : i < its.toArray.size := by
      have := (List.getElem?_eq_some_iff.mp hu).1
      simpa using this
    refine wpAny_pyNext_enum_itemC D he ⟨hit, p⟩ hlt hne (by simp [hne, hea]) fun x2 h' tk hx2 ho hst hT hsz hk => ?_
    obtain rfl : x2 = u := by
      have e1 : its.toArray[i]? = some u := by simpa using hu
      rw [e1] at hx2
      exact (Option.some.inj hx2).symm
    refine ⟨_, rfl, wpAny_letOwnedTupleGo_enum (s := { s with heap := h', toks := tk + 1 }) ho fun h'' he' sb => ?_⟩
    have hT2 : h''.get? s.heap.objs.size = some { cls := .type "tuple", data := .seq #[.int i tk, x2] } := (sb.2 _ (Nat.ne_of_gt hel)).trans hT
    have new : ObjOk X.prog X.w (upd H s.heap.objs.size (.tup [.int (i : Nat), x])) h'' s.heap.objs.size (.tup [.int (i : Nat), x]) :=
      ⟨by show 2 ≤ sizeLine; decide, [.int i tk, x2], .cons ⟨_, rfl⟩ (.cons ru .nil), ⟨_, hT2, rfl, _, rfl⟩⟩
    have I1 : Inv X pins σ (upd H s.heap.objs.size (.tup [.int (i : Nat), x])) { s with heap := h'', toks := tk + 1 } :=
      I.turnedNew (ch := [e, it]) (fun b ob hb q => (sb.2 b (fun z => hb (by simp [z]))).trans (hk b ob (fun z => hb (by simp [z])) (fun z => hb (by simp [z])) q)) hf (Nat.le_refl _) new
    refine ⟨.ref s.heap.objs.size, _, I1, rfl, ⟨_, x, rfl, I.hok.fresh (Nat.le_refl _), rfl, fun ys hy => by rw [I.tuple_inj hy hq]; exact hx⟩, ⟨⟨x2, ?_⟩, hst.1.at fun o q => (sb.2 it (Ne.symm hne)).trans q, hne, hai, hea⟩, fun b hb => ?_⟩
    · have e1 : ((i + 1 : Nat) : Int) = (i : Int) + 1 := by omega
      rw [e1]; exact he'
    · have hb' : b < s.heap.objs.size := by
        have e' : b = e ∨ b = it := by simpa using hb
        rcases e' with z | z
        · rw [z]; exact hel
        · rw [z]; exact hil
      rw [upd_ne (Nat.ne_of_lt hb')]
      exact (hf b hb).1
  done := by
    intro X hP hw hK hc i pins s σ H E I hf st hg
    subst hP hw hK
    obtain ⟨⟨old, he⟩, hit, hne, hai, hea⟩ := st
    obtain ⟨xs, hq, hx⟩ := hg
    obtain ⟨its, rv, p, hz⟩ := I.tuple hq
    obtain ⟨f0, f1, f2, f3, f4, f5⟩ := hf it (by simp)
    have hl := rv.length
    have hn : its.toArray[i]? = none := by simp; omega
    have D : Draws X.prog X.w X.A.in1 it [it, a] 0 (fun _ _ => False) (fun k h => k = 0 ∧ h.IsTupleIter it a i ∧ h.IsTuple a its.toArray) :=
      { live := fun _ _ st => let ⟨_, ⟨o, ho, _⟩, _⟩ := st; ⟨o, ho⟩
        frame := fun _ _ _ st hk => ⟨st.1, st.2.1.at fun o e => hk it (by simp) o e, st.2.2.at fun o e => hk a (by simp) o e⟩
        item := fun i s Q E hi _ _ => absurd hi (Nat.not_lt_zero _)
        done := fun s Q E st hE => wpAny_nextOf_tuple_end (I.ok.hd hc) st.2.1 st.2.2 hn hE }
    exact wpAny_pyNext_enum_endD D he ⟨rfl, hit, p⟩ fun h' eb => ⟨rfl, I.turned (t' := s.toks) (fun b o hb q => eb b o hb q) f0 f1 f3 f4 f5⟩
  self := fun A i s Q E st h => let ⟨⟨_, he⟩, _⟩ := st; wpAny_pyIter_enum he h
def iEnumT (K : PySem.W.Frag) (ta : TA) : TI := fun σ H R => ta σ H fun vs H1 => ∃ a xs, vs = [.ref a] ∧ SqT K H1 a xs ∧ R (IteT K a) H1
theorem pi_enumT {X : Cx} {e : Expr} {ta : TA} {p pos tpos : Pos} {elts : List Expr} {kk : Nat} (hg : Gl X "enumerate") (hm : X.mg "enumerate" = none) (ha : PA X [e] ta) (hs : starEach [e] X.env = [(false, eval e X.env)] := by rfl) :
    PI X (.Tuple elts kk tpos) (.Call (.Name "enumerate" p) [e] [] pos) (iEnumT X.K ta) := by
  refine ⟨fun pins s σ H R I h => ?_⟩
  refine Call_ (ld_blt I hg hm boot_enumerate (PyProof.Rows.callWith_type1 (thn (ha.run pos pins s σ H _ I h) fun us s1 ⟨vs, H1, I1, r1, q1⟩ => ?_) hs rfl))
  obtain ⟨a, xs, ex, hq, q⟩ := q1
  subst ex
  cases r1 with
  | cons r rr =>
    cases rr
    cases r
    obtain ⟨its, rv, p', hz⟩ := I1.tuple hq
    have hal : a < s1.heap.objs.size := by obtain ⟨o, ho, _⟩ := id p'; exact Heap.lt_size ho
    refine enum_begins1 (begins_tuple a its.toArray) p' fun h' he hit hsz hk => wpAny_pyIter_enum he ?_
    have I2 : Inv X pins σ H1 { s1 with heap := h' } := I1.kept (t' := s1.toks) hk
    refine ⟨s1.heap.objs.size + 1, [s1.heap.objs.size + 1, s1.heap.objs.size], _, _, H1, rfl, I2, turn_enumT a (s1.heap.objs.size + 1) s1.heap.objs.size, ⟨⟨.none, he⟩, ⟨_, hit, rfl, rfl⟩, Nat.succ_ne_self _, Nat.ne_of_lt hal, Nat.ne_of_gt (Nat.lt_succ_of_lt hal)⟩, fun b hb => ?_, q⟩
    have e' : b = s1.heap.objs.size + 1 ∨ b = s1.heap.objs.size := by simpa using hb
    have hle : s1.heap.objs.size ≤ b := by
      rcases e' with z | z
      · rw [z]; exact Nat.le_add_right _ _
      · rw [z]; exact Nat.le_refl _
    exact I1.fpOk hle (I1.hok.fresh hle)
end JT
/-! N2: the parents of rows. -/
namespace JT
open PySem PySem.Spec PyProof.Rows L2 PySem.W
abbrev s_all_ways : Stmt := topS 29
abbrev n_all_ways : List Str := ["net", "found", "at", "row", "kid"]
theorem sc_all_ways : FnScope n_all_ways ["net"] (defScope s_all_ways) :=
  ⟨rfl, rfl, rfl, by decide +kernel, rfl, by decide +kernel, by decide +kernel⟩
/-- at the lists ls stand the parents that the edges es give -/
def WaysAt (H : Hp) (ls : List Addr) (es : List (Nat × Nat)) : Prop := ∀ k l, ls[k]? = some l → H l = some (.lst ((waysOf es k).map natV))
theorem WaysAt.same {H H' : Hp} {ls : List Addr} {es : List (Nat × Nat)} (h : WaysAt H ls es) (s : Same H H') : WaysAt H' ls es := fun k l e => s _ _ (h k l e)
theorem WaysAt.add {H : Hp} {ls : List Addr} {es : List (Nat × Nat)} {i k : Nat} {l : Addr} (h : WaysAt H ls es) (nd : ls.Nodup) (hl : ls[k]? = some l) : WaysAt (upd H l (.lst ((waysOf es k).map natV ++ [natV i]))) ls (es ++ [(i, k)]) := by
  intro j m e
  rw [waysOf_snoc]
  by_cases hj : k = j
  · subst hj
    rw [hl] at e
    cases e
    rw [upd_same, if_pos rfl, List.map_append]
    rfl
  · have hml : m ≠ l := fun z => by
      subst z
      exact hj ((List.getElem?_inj (List.getElem?_eq_some_iff.mp hl).1 nd).mp (hl.trans e.symm))
    rw [upd_ne hml, if_neg hj, List.append_nil]
    exact h j m e
theorem waysOf_le (es : List (Nat × Nat)) (k : Nat) : (waysOf es k).length ≤ es.length := by
  unfold waysOf
  rw [List.length_map]
  exact List.length_filter_le _ _
theorem edgesTo_le {N : Net} (h : ∀ i, (kidsAt N i).length ≤ 100) : ∀ i, (edgesTo N i).length ≤ i * 100
  | 0 => Nat.zero_le _
  | i + 1 => by
    rw [edgesTo_succ, List.length_append, List.length_map]
    have := edgesTo_le h i
    have := h i
    omega
section
variable {P : Program} {w : World} {K : PySem.W.Frag} {mg : Str → Option Value} {base : Heap}
def spWays : Sp := fun vs H Q _ => ∃ v N, vs = [v] ∧ DT H v (encN N) ∧ N.length ≤ 60 ∧ (∀ i k, k ∈ kidsAt N i → k < N.length) ∧ (∀ i, (kidsAt N i).length ≤ 100) ∧
  ∀ H' p ls, Same H H' → H p = none → H' p = some (.lst (ls.map V.ref)) → ls.length = N.length → WaysAt H' ls (edges N) → Q (.ref p) H'
/-- the new empty lists -/
structure News (H H1 : Hp) (D : Addr) (ls : List Addr) : Prop where
  same : Same H H1
  at_ : H1 D = some (.lst (ls.map V.ref))
  nd : ls.Nodup
  free : ∀ l ∈ ls, H l = none ∧ l ≠ D
  tr : ∀ l ∈ ls, ∃ o, H1 l = some o
theorem News.upd {H H1 : Hp} {D l : Addr} {ls : List Addr} {o : HO} (h : News H H1 D ls) (hl : l ∈ ls) : News H (upd H1 l o) D ls :=
  ⟨fun b u e => by rw [upd_ne (ne_of_none e (h.free l hl).1)]; exact h.same _ _ e, by rw [upd_ne (Ne.symm (h.free l hl).2)]; exact h.at_, h.nd, h.free, fun m hm => by
    by_cases e : m = l
    · rw [e, upd_same]
      exact ⟨_, rfl⟩
    · rw [upd_ne e]
      exact h.tr m hm⟩
theorem News.up {H H1 H2 : Hp} {D : Addr} {ls : List Addr} (h : News H H1 D ls) (s : Same H1 H2) : News H H2 D ls := ⟨Same.trans' h.same s, s _ _ h.at_, h.nd, h.free, fun m hm => let ⟨o, e⟩ := h.tr m hm; ⟨o, s _ _ e⟩⟩
theorem News.snoc {H H1 : Hp} {D l : Addr} {ls : List Addr} {u : HO} (h : News H H1 D ls) (hD : H D = none) (hl : H1 l = none) : News H (L2.upd (L2.upd H1 l u) D (.lst (ls.map V.ref ++ [.ref l]))) D (ls ++ [l]) := by
  have l0 : H l = none := by
    cases e : H l with
    | none => rfl
    | some o => rw [h.same _ _ e] at hl; cases hl
  have lD : l ≠ D := fun z => by rw [z, h.at_] at hl; cases hl
  refine ⟨fun b o e => ?_, by rw [upd_same, List.map_append]; rfl, ?_, fun m hm => ?_, fun m hm => ?_⟩
  · rw [upd_ne (ne_of_none e hD), upd_ne (ne_of_none e l0)]
    exact h.same _ _ e
  · rw [List.nodup_append]
    refine ⟨h.nd, by simp, fun a ha b hb z => ?_⟩
    rw [List.mem_singleton] at hb
    subst hb z
    obtain ⟨o, e⟩ := h.tr a ha
    rw [hl] at e
    cases e
  · rcases List.mem_append.mp hm with hm | hm
    · exact h.free m hm
    · rw [List.mem_singleton.mp hm]
      exact ⟨l0, lD⟩
  · rcases List.mem_append.mp hm with hm | hm
    · obtain ⟨o, e⟩ := h.tr m hm
      rw [upd_ne (h.free m hm).2, upd_ne (ne_of_none e hl)]
      exact ⟨o, e⟩
    · rw [List.mem_singleton.mp hm, upd_ne lD, upd_same]
      exact ⟨_, rfl⟩
theorem c_all_ways (T : Top mg) (D : Def K mg "all_ways" "all_ways" s_all_ways) (C_kids_of : Cal P w K mg base 1 "kids_of" spKidsOf) : Cal P w K mg base 2 "all_ways" spWays := by
  refine D.cal sc_all_ways (fun _ _ _ _ _ _ us hl => match us, hl with | [_], _ => rfl) (fun vs H Q E h => ?_) fun f cdv A outer s H vs Q E hr hsp => ?_
  · obtain ⟨_, _, rfl, _⟩ := h; rfl
  refine ⟨_, (pss_cons (ps_setLc (i := 1) (own := [("row", 3)]) (g := gName 3) (tt := tYes) rfl sc_all_ways.nd rfl rfl (sw_true rfl rfl rfl (by decide +kernel)) (pi_tupK K (pv 0)) (blkOk_by (own := [("row", 3)]) (N := n_all_ways) (sc := defScope s_all_ways) (by decide +kernel)) (fun _ _ _ _ _ => (pg_name (i := 3) sc_all_ways.nd rfl (Or.inl rfl))) (fun _ _ _ _ _ => pts_nil) (fun _ _ _ _ _ => (pe_lst pa_nil)))
    (pss_cons (ps_for PassesOwn.never rfl (pi_enumT rfl T.enumerate (pa_cons (pv 0) pa_nil)) (pgt (n := 2) rfl (pgs_cons (pg_name (i := 2) sc_all_ways.nd rfl (Or.inl rfl)) (pgs_cons (pg_name (i := 3) sc_all_ways.nd rfl (Or.inl rfl)) pgs_nil)))
    (pss_one (ps_for PassesOwn.never rfl (pi_tupK K (pe_f C_kids_of hr rfl (pa_cons (pv 3) pa_nil))) (pg_name (i := 4) sc_all_ways.nd rfl (Or.inl rfl))
    (pss_one (ps_expr (pe_ml PySem.F.slot_list_append PySem.F.type_list_append mt_append (pe_ix ixl (pv 1) (pv 4) (fun _ _ => rfl)) (pa_cons (pv 2) pa_nil)))))))
    (pss_one (ps_ret (pv 1))))), ?_⟩
  obtain ⟨v, N, rfl, hd, h60, hk, hk2, q⟩ := hsp
  obtain ⟨a, xs, rfl, ha, hlen, hrow⟩ := net_at hd
  refine ⟨_, rfl, a, rfl, ⟨xs, sq_at ha⟩, fun D hD => ?_⟩
  refine lc_gen (n := xs.length) (fun i H1 => ∃ ls, News H H1 D ls ∧ ls.length = i ∧ ∀ l ∈ ls, H1 l = some (.lst [])) ⟨[], ⟨same_upd hD, upd_same, List.nodup_nil, by simp, by simp⟩, rfl, by simp⟩ (fun i H1 hi ⟨ls, n, _⟩ => go_tup (n.same _ _ ha) hi) (fun H1 ⟨ls, n, _⟩ => st_tup (n.same _ _ ha) (Nat.le_refl _)) (fun i H1 x H2 hi ⟨ls, n, hll, he⟩ hy => ?_) fun H1 ⟨ls, n, hll, he⟩ => ?_
  · obtain ⟨rfl, hx⟩ := hy
    refine ⟨rfl, Nat.zero_le _, fun l hl => ⟨ls.map V.ref, ?_, ?_, ls ++ [l], n.snoc hD hl, by rw [List.length_append, hll]; rfl, fun m hm => ?_⟩⟩
    · rw [upd_ne (ne_of_none n.at_ hl)]
      exact n.at_
    · rw [List.length_map]
      exact smallT (by omega)
    · rcases List.mem_append.mp hm with hm | hm
      · rw [upd_ne (n.free m hm).2, upd_ne (ne_of_none (he m hm) hl)]
        exact he m hm
      · rw [List.mem_singleton.mp hm, upd_ne (fun z => by rw [z, n.at_] at hl; cases hl), upd_same]
  · have w0 : WaysAt H1 ls (edgesTo N 0) := fun k l e => by
      rw [he l (List.mem_of_getElem? e)]
      rfl
    refine ⟨_, rfl, a, xs, rfl, sq_at (n.same _ _ ha), ?_⟩
    refine for_gen (n := xs.length) (fun i σ H2 => (∃ s2 s3 s4, σ = [some (.ref a), some (.ref D), s2, s3, s4]) ∧ News H H2 D ls ∧ WaysAt H2 ls (edgesTo N i)) ⟨⟨_, _, _, rfl⟩, n, w0⟩ (fun i σ H2 hi ⟨_, n2, _⟩ => ⟨xs, xs[i], sq_at (n2.same _ _ ha), by simp [hi]⟩) (fun σ H2 ⟨_, n2, _⟩ => ⟨xs, sq_at (n2.same _ _ ha), Nat.le_refl _⟩) (fun i σ H2 x H3 hi ⟨⟨s2, s3, s4, es⟩, n2, w2⟩ hy => ?_) fun σ H2 ⟨⟨s2, s3, s4, es⟩, n2, w2⟩ => ?_
    · subst es
      obtain ⟨t, y, rfl, ht, rfl, hx⟩ := hy
      obtain ⟨r, er, hd1⟩ := hrow i y (hx xs (sq_at (n2.same _ _ ha)))
      have S3 : Same H2 (upd H2 t (.tup [.int (i : Nat), y])) := same_upd ht
      refine ⟨t, _, rfl, upd_same, rfl, _, _, rfl, _, _, rfl, rfl, ?_⟩
      refine ⟨_, rfl, y, r, rfl, hd1.up (Same.tk (Same.trans' n2.same S3)), fun H4 p S4 hp => ⟨p, rfl, ⟨_, sq_at hp⟩, ?_⟩⟩
      have S24 := Same.trans' S3 S4
      have ek : kidsAt N i = r.kids := kidsAt_some er
      refine for_gen (n := r.kids.length) (fun j σ H5 => (∃ s4, σ = [some (.ref a), some (.ref D), some (natV i), some y, s4]) ∧ News H H5 D ls ∧ WaysAt H5 ls (edgesTo N i ++ (r.kids.take j).map fun k => (i, k)) ∧ H5 p = some (.tup (r.kids.map natV)))
        ⟨⟨_, rfl⟩, n2.up S24, by simpa using w2.same S24, hp⟩ (fun j σ H5 hj ⟨_, _, _, hp5⟩ => go_tup hp5 (by rw [nats_len]; exact hj)) (fun σ H5 ⟨_, _, _, hp5⟩ => st_tup hp5 (by rw [nats_len]; exact Nat.le_refl _)) (fun j σ H5 z H6 hj ⟨⟨s5, es⟩, n5, w5, hp5⟩ hy => ?_) fun σ H5 ⟨⟨s5, es⟩, n5, w5, hp5⟩ => ⟨⟨_, _, _, es⟩, n5, by rw [edgesTo_succ, ek]; simpa using w5⟩
      subst es
      obtain ⟨rfl, hz⟩ := hy
      have hz := hz _ (sq_at hp5)
      rw [nats_at hj] at hz
      cases hz
      have hkm : r.kids[j] ∈ kidsAt N i := by rw [ek]; exact List.getElem_mem hj
      have hlt := hk i _ hkm
      have hls : ls[r.kids[j]]? = some (ls[r.kids[j]]'(by omega)) := List.getElem?_eq_getElem _
      have hat : (ls.map V.ref)[r.kids[j]]? = some (.ref (ls[r.kids[j]]'(by omega))) := by rw [List.getElem?_map, hls]; rfl
      have hl5 := w5 _ _ hls
      have elen : (waysOf (edgesTo N i ++ (r.kids.take j).map fun k => (i, k)) r.kids[j]).length ≤ 10000 := by
        refine Nat.le_trans (waysOf_le _ _) ?_
        rw [List.length_append, List.length_map, List.length_take]
        have e1 := edgesTo_le hk2 i
        have e2 := hk2 i
        rw [ek] at e2
        omega
      refine ⟨_, rfl, _, rfl, D, _, (r.kids[j] : Int), _, rfl, rfl, n5.at_, atI_nat hat, ⟨_, _, rfl, hl5⟩, _, rfl, _, _, _, rfl, rfl, hl5, by rw [List.length_map]; exact smallT elen, ⟨_, rfl⟩, ?_, ?_, ?_⟩
      · exact n5.upd (List.getElem_mem _)
      · rw [List.take_add_one, List.getElem?_eq_getElem hj, List.map_append, ← List.append_assoc]
        exact w5.add n5.nd hls
      · rw [upd_ne (fun z => by rw [z, hl5] at hp5; cases hp5)]
        exact hp5
    · subst es
      refine ⟨_, rfl, q _ _ ls n2.same hD n2.at_ (by omega) ?_⟩
      rw [hlen] at w2
      exact w2
end
end JT
/-! N3: the parents of rows, the law's way; is_net. -/
namespace JT
open PySem PySem.Spec PyProof.Rows L2 PySem.W
abbrev s__law_kids : Stmt := topS 68
abbrev n__law_kids : List Str := ["_law_net_here", "_law_at"]
theorem sc__law_kids : FnScope n__law_kids ["_law_net_here", "_law_at"] (defScope s__law_kids) :=
  ⟨rfl, rfl, rfl, by decide +kernel, rfl, by decide +kernel, by decide +kernel⟩
abbrev s__law_ways : Stmt := topS 69
abbrev n__law_ways : List Str := ["_law_net_here", "_law_found", "_law_at", "_law_kid", "_law_row"]
theorem sc__law_ways : FnScope n__law_ways ["_law_net_here"] (defScope s__law_ways) :=
  ⟨rfl, rfl, rfl, by decide +kernel, rfl, by decide +kernel, by decide +kernel⟩
section
variable {P : Program} {w : World} {K : PySem.W.Frag} {mg : Str → Option Value} {base : Heap}
def spLKids : Sp := fun vs H Q _ => ∃ v N r, ∃ i : Nat, vs = [v, natV i] ∧ DT H v (encN N) ∧ N[i]? = some r ∧ ∀ H' p, Same H H' → H' p = some (.tup (r.kids.map natV)) → Q (.ref p) H'
theorem c__law_kids (T : Top mg) (D : Def K mg "_law_kids" "_law_kids" s__law_kids) : Cal P w K mg base 1 "_law_kids" spLKids := by
  refine D.cal sc__law_kids (fun _ _ _ _ _ _ us hl => match us, hl with | [_, _], _ => rfl) (fun vs H Q E h => ?_) fun f cdv A outer s H vs Q E hr hsp => ?_
  · obtain ⟨_, _, _, _, rfl, _⟩ := h; rfl
  refine ⟨_, (pss_cons (ps_if (pt_cmpR op_eq (pe_ix ixt (pe_ix ixt (pv 0) (pv 1) (fun _ _ => rfl)) pe_int (fun _ _ => rfl)) pe_str (nomark _)) (pss_one (ps_ret (pe_tup pa_nil))) pss_nil)
    (pss_one (ps_ret (pe_ifExp (pt_cmpR op_eq (pe_ix ixt (pe_ix ixt (pv 0) (pv 1) (fun _ _ => rfl)) pe_int (fun _ _ => rfl)) pe_str (nomark _)) (pe_ix ixt (pe_ix ixt (pv 0) (pv 1) (fun _ _ => rfl)) pe_int (fun _ _ => rfl)) (pe_tup (pa_cons (pe_ix ixt (pe_ix ixt (pv 0) (pv 1) (fun _ _ => rfl)) pe_int (fun _ _ => rfl)) pa_nil)))))), ?_⟩
  obtain ⟨v, N, r, i, rfl, hd, er, q⟩ := hsp
  obtain ⟨a, xs, rfl, ha, hlen, hrow⟩ := net_at hd
  have hi : i < xs.length := by rw [hlen]; exact (List.getElem?_eq_some_iff.mp er).1
  have hx : xs[i]? = some xs[i] := List.getElem?_eq_getElem hi
  obtain ⟨r', er', hr1⟩ := hrow i _ hx
  rw [er] at er'
  cases er'
  obtain ⟨b, y, eb, hb, hy⟩ := row_at hr1
  rw [eb] at hx
  refine ⟨_, rfl, _, rfl, a, xs, (i : Int), _, rfl, rfl, ha, atI_nat hx, b, _, 0, _, rfl, rfl, hb, atI_nat (j := 0) rfl, rfl, _, rfl, ?_⟩
  cases r with
  | leaf z => exact iteP rfl ⟨Nat.zero_le _, fun p np => q _ p (same_upd np) upd_same⟩
  | fork ks =>
    obtain ⟨c, rfl, hc⟩ := fork_at hy
    refine iteN (by simp [Row.tag]; decide) ?_
    refine ⟨_, rfl, _, rfl, a, xs, (i : Int), _, rfl, rfl, ha, atI_nat hx, b, _, 0, _, rfl, rfl, hb, atI_nat (j := 0) rfl, rfl, _, rfl, iteP rfl ?_⟩
    exact ⟨_, rfl, _, rfl, a, xs, (i : Int), _, rfl, rfl, ha, atI_nat hx, b, _, 1, _, rfl, rfl, hb, atI_nat (j := 1) rfl, q _ c (Same.refl' _) hc⟩
  | join k =>
    rw [show y = natV k from DT.of_int hy] at hb
    refine iteN (by simp [Row.tag]; decide) ?_
    refine ⟨_, rfl, _, rfl, a, xs, (i : Int), _, rfl, rfl, ha, atI_nat hx, b, _, 0, _, rfl, rfl, hb, atI_nat (j := 0) rfl, rfl, _, rfl, iteN (by simp [Row.tag]; decide) ?_⟩
    exact ⟨_, rfl, _, rfl, a, xs, (i : Int), _, rfl, rfl, ha, atI_nat hx, b, _, 1, _, rfl, rfl, hb, atI_nat (j := 1) rfl, small (show 1 ≤ 10000 by decide), fun p np => q _ p (same_upd np) upd_same⟩
theorem c__law_ways (T : Top mg) (D : Def K mg "_law_ways" "_law_ways" s__law_ways) (C__law_kids : Cal P w K mg base 1 "_law_kids" spLKids) : Cal P w K mg base 2 "_law_ways" spWays := by
  refine D.cal sc__law_ways (fun _ _ _ _ _ _ us hl => match us, hl with | [_], _ => rfl) (fun vs H Q E h => ?_) fun f cdv A outer s H vs Q E hr hsp => ?_
  · obtain ⟨_, _, rfl, _⟩ := h; rfl
  refine ⟨_, (pss_cons (ps_setLc (i := 1) (own := [("_law_row", 4)]) (g := gName 4) (tt := tYes) rfl sc__law_ways.nd rfl rfl (sw_true rfl rfl rfl (by decide +kernel)) (pi_tupK K (pv 0)) (blkOk_by (own := [("_law_row", 4)]) (N := n__law_ways) (sc := defScope s__law_ways) (by decide +kernel)) (fun _ _ _ _ _ => (pg_name (i := 4) sc__law_ways.nd rfl (Or.inl rfl))) (fun _ _ _ _ _ => pts_nil) (fun _ _ _ _ _ => (pe_lst pa_nil)))
    (pss_cons (ps_for PassesOwn.never rfl (pi_range1 rfl T.range (pa_cons (pe_callB lenq rfl T.len PySem.boot_len (pa_cons (pv 0) pa_nil)) pa_nil)) (pg_name (i := 2) sc__law_ways.nd rfl (Or.inl rfl))
    (pss_one (ps_for PassesOwn.never rfl (pi_tupK K (pe_f C__law_kids hr rfl (pa_cons (pv 0) (pa_cons (pv 2) pa_nil)))) (pg_name (i := 3) sc__law_ways.nd rfl (Or.inl rfl))
    (pss_one (ps_expr (pe_ml PySem.F.slot_list_append PySem.F.type_list_append mt_append (pe_ix ixl (pv 1) (pv 3) (fun _ _ => rfl)) (pa_cons (pv 2) pa_nil)))))))
    (pss_one (ps_ret (pv 1))))), ?_⟩
  obtain ⟨v, N, rfl, hd, h60, hk, hk2, q⟩ := hsp
  obtain ⟨a, xs, rfl, ha, hlen, hrow⟩ := net_at hd
  refine ⟨_, rfl, a, rfl, ⟨xs, sq_at ha⟩, fun D hD => ?_⟩
  refine lc_gen (n := xs.length) (fun i H1 => ∃ ls, News H H1 D ls ∧ ls.length = i ∧ ∀ l ∈ ls, H1 l = some (.lst [])) ⟨[], ⟨same_upd hD, upd_same, List.nodup_nil, by simp, by simp⟩, rfl, by simp⟩ (fun i H1 hi ⟨ls, n, _⟩ => go_tup (n.same _ _ ha) hi) (fun H1 ⟨ls, n, _⟩ => st_tup (n.same _ _ ha) (Nat.le_refl _)) (fun i H1 x H2 hi ⟨ls, n, hll, he⟩ hy => ?_) fun H1 ⟨ls, n, hll, he⟩ => ?_
  · obtain ⟨rfl, hx⟩ := hy
    refine ⟨rfl, Nat.zero_le _, fun l hl => ⟨ls.map V.ref, ?_, ?_, ls ++ [l], n.snoc hD hl, by rw [List.length_append, hll]; rfl, fun m hm => ?_⟩⟩
    · rw [upd_ne (ne_of_none n.at_ hl)]
      exact n.at_
    · rw [List.length_map]
      exact smallT (by omega)
    · rcases List.mem_append.mp hm with hm | hm
      · rw [upd_ne (n.free m hm).2, upd_ne (ne_of_none (he m hm) hl)]
        exact he m hm
      · rw [List.mem_singleton.mp hm, upd_ne (fun z => by rw [z, n.at_] at hl; cases hl), upd_same]
  · have w0 : WaysAt H1 ls (edgesTo N 0) := fun k l e => by
      rw [he l (List.mem_of_getElem? e)]
      rfl
    refine ⟨_, rfl, a, xs, rfl, .inr (n.same _ _ ha), _, rfl, by omega, by omega, ?_⟩
    refine for_gen (n := ((xs.length : Int)).toNat) (fun i σ H2 => (∃ s2 s3 s4, σ = [some (.ref a), some (.ref D), s2, s3, s4]) ∧ News H H2 D ls ∧ WaysAt H2 ls (edgesTo N i)) ⟨⟨_, _, _, rfl⟩, n, w0⟩ (fun i σ H2 hi _ => hi) (fun σ H2 _ => Nat.le_refl _) (fun i σ H2 x H3 hi ⟨⟨s2, s3, s4, es⟩, n2, w2⟩ hy => ?_) fun σ H2 ⟨⟨s2, s3, s4, es⟩, n2, w2⟩ => ?_
    · subst es
      obtain ⟨rfl, ex⟩ := hy
      have ex : x = natV i := by rw [ex]; simp [natV]
      subst ex
      have hi' : i < N.length := by omega
      have er : N[i]? = some N[i] := List.getElem?_eq_getElem hi'
      refine ⟨_, rfl, _, rfl, .ref a, N, N[i], i, rfl, hd.up (Same.tk n2.same), er, fun H4 p S4 hp => ⟨p, rfl, ⟨_, sq_at hp⟩, ?_⟩⟩
      have ek : kidsAt N i = N[i].kids := kidsAt_some er
      generalize N[i] = r at er hp ek
      refine for_gen (n := r.kids.length) (fun j σ H5 => (∃ s3 s4, σ = [some (.ref a), some (.ref D), some (natV i), s3, s4]) ∧ News H H5 D ls ∧ WaysAt H5 ls (edgesTo N i ++ (r.kids.take j).map fun k => (i, k)) ∧ H5 p = some (.tup (r.kids.map natV)))
        ⟨⟨_, _, rfl⟩, n2.up S4, by simpa using w2.same S4, hp⟩ (fun j σ H5 hj ⟨_, _, _, hp5⟩ => go_tup hp5 (by rw [nats_len]; exact hj)) (fun σ H5 ⟨_, _, _, hp5⟩ => st_tup hp5 (by rw [nats_len]; exact Nat.le_refl _)) (fun j σ H5 z H6 hj ⟨⟨s5, s6, es⟩, n5, w5, hp5⟩ hy => ?_) fun σ H5 ⟨⟨s5, s6, es⟩, n5, w5, hp5⟩ => ⟨⟨_, _, _, es⟩, n5, by rw [edgesTo_succ, ek]; simpa using w5⟩
      subst es
      obtain ⟨rfl, hz⟩ := hy
      have hz := hz _ (sq_at hp5)
      rw [nats_at hj] at hz
      cases hz
      have hkm : r.kids[j] ∈ kidsAt N i := by rw [ek]; exact List.getElem_mem hj
      have hlt := hk i _ hkm
      have hls : ls[r.kids[j]]? = some (ls[r.kids[j]]'(by omega)) := List.getElem?_eq_getElem _
      have hat : (ls.map V.ref)[r.kids[j]]? = some (.ref (ls[r.kids[j]]'(by omega))) := by rw [List.getElem?_map, hls]; rfl
      have hl5 := w5 _ _ hls
      have elen : (waysOf (edgesTo N i ++ (r.kids.take j).map fun k => (i, k)) r.kids[j]).length ≤ 10000 := by
        refine Nat.le_trans (waysOf_le _ _) ?_
        rw [List.length_append, List.length_map, List.length_take]
        have e1 := edgesTo_le hk2 i
        have e2 := hk2 i
        rw [ek] at e2
        omega
      refine ⟨_, rfl, _, rfl, D, _, (r.kids[j] : Int), _, rfl, rfl, n5.at_, atI_nat hat, ⟨_, _, rfl, hl5⟩, _, rfl, _, _, _, rfl, rfl, hl5, by rw [List.length_map]; exact smallT elen, ⟨_, _, rfl⟩, ?_, ?_, ?_⟩
      · exact n5.upd (List.getElem_mem _)
      · rw [List.take_add_one, List.getElem?_eq_getElem hj, List.map_append, ← List.append_assoc]
        exact w5.add n5.nd hls
      · rw [upd_ne (fun z => by rw [z, hl5] at hp5; cases hp5)]
        exact hp5
    · subst es
      refine ⟨_, rfl, q _ _ ls n2.same hD n2.at_ (by omega) ?_⟩
      rw [show ((xs.length : Int)).toNat = N.length by omega] at w2
      exact w2
end
end JT
/-! RuStar: a, *b = a list. -/
namespace JT
open PySem PySem.Spec PyProof.Rows L2 PySem.W
theorem star_items {prog : Program} {w : World} {A : Around} {E : Value → Shared → Prop} {s : Shared} {l : Addr} {items : Array Value} {Q : List Value → Shared → Prop} (hl : s.heap.IsList l items) (hh : A.handled = none) (hn : 1 ≤ items.size) (hz : items.size ≤ 16384)
    (h : ∀ h' tk, Heap.ExtBut s.heap.objs.size s.heap h' → Q (items.toList.take 1 ++ [.ref h'.objs.size]) { s with heap := h'.push (seqObj "list" (items.toList.drop 1).toArray 0), toks := tk }) : wpAny (model prog w) A (unpackItems (.ref l) 2 (some 1)) Q E s := by
  have hlt : l ≠ s.heap.objs.size := by obtain ⟨o, ho, _⟩ := hl; exact Nat.ne_of_lt (Heap.lt_size ho)
  have hll : l < s.heap.objs.size := by obtain ⟨o, ho, _⟩ := hl; exact Heap.lt_size ho
  unfold unpackItems
  refine wpAny_bind ?_
  unfold notIterableAtAll
  refine wpAny_bind (wpAny_specialOf hl.typeIs slot_list_iter.lookup ?_)
  refine wpAny_pure ?_
  simp only [Bool.false_eq_true, if_false]
  refine wpAny_bind (wpAny_holding (wpAny_pyIter_list hl ?_))
  refine wpAny_bind (wpAny_holding (kun_draw hlt 1 0 _ _ ⟨_, Heap.get?_push_size _ rfl, rfl, rfl⟩ (hl.push _) (by omega) fun h₁ hit₁ hs₁ => ?_))
  have hl₁ : h₁.IsList l items := (hl.push _).extBut hs₁.extBut hlt
  rw [Nat.zero_add] at hit₁
  have hit₁' := hit₁
  obtain ⟨oi, hoi, _⟩ := hit₁'
  have hl₁' := hl₁
  obtain ⟨ol, hol, _⟩ := hl₁'
  rw [List.drop_zero]
  have hfl : (items.toList.take 1).length = 1 := by rw [List.length_take, Array.length_toList]; omega
  rw [if_neg (show ¬ ((items.toList.take 1).length < 1) by rw [hfl]; omega)]
  have hs1 : h₁.objs.size = s.heap.objs.size + 1 := by rw [hs₁.1, Heap.size_push]
  refine wpAny_bind (wpAny_holding (kun_collect (s := { s with heap := h₁ }) (T := "list_iterator") (.inr (.inr (.inl rfl))) (Walks.list (A := A.in1) hh s.heap.objs.size l hlt items) (fun j u st => st.1.typeIs) (k := 1) (by omega) ⟨hit₁, hl₁⟩ (Heap.lt_size hoi) (Heap.lt_size hol) (fun h₂ tk hk => ?_) (by rw [sizeLine_eq]; omega)))
  have hrl : (items.toList.drop 1).length = items.size - 1 := by rw [List.length_drop, Array.length_toList]
  show wpAny _ _ (if (items.toList.drop 1).length < 2 - 1 - 1 then _ else _) _ _ _
  rw [if_neg (by omega)]
  show wpAny _ _ (newList ((items.toList.drop 1).take ((items.toList.drop 1).length - (2 - 1 - 1))) >>= fun d => pure (items.toList.take 1 ++ [d] ++ (items.toList.drop 1).drop ((items.toList.drop 1).length - (2 - 1 - 1)))) _ _ _
  have e0 : (items.toList.drop 1).length - (2 - 1 - 1) = (items.toList.drop 1).length := by omega
  rw [e0, List.take_length, List.drop_length]
  have he : Heap.ExtBut s.heap.objs.size s.heap h₂ := fun b o hb e => hk b o hb (hs₁.extBut b o hb (Heap.get?_push_of_some _ e))
  refine wpAny_bind (wpAny_newList ?_ (by rw [hrl, sizeLine_eq]; omega))
  refine wpAny_pure ?_
  rw [List.append_nil]
  exact h h₂ tk he
def gStar1 (K : PySem.W.Frag) (t : TGs) : TG := fun v σ H Q => ∃ a x xs, v = .ref a ∧ SqL K H a (x :: xs) ∧ xs.length ≤ 10000 ∧ ∀ p, H p = none → t [x, .ref p] σ (upd H p (.lst xs)) Q
theorem pg_star1 {X : Cx} {e1 e2 : Expr} {sp pos : Pos} {k : Nat} {t : TGs} (hc : X.calm = true) (h : PGs X [e1, e2] t)
    (hn : (assignEach [e1, .Starred e2 sp] X.env).length = 2 := by rfl) (hst : (assignEach [e1, .Starred e2 sp] X.env).findIdx? (·.1) = some 1 := by rfl)
    (hm : (assignEach [e1, .Starred e2 sp] X.env).map (·.2) = (assignEach [e1, e2] X.env).map (·.2) := by rfl) : PG X (.Tuple [e1, .Starred e2 sp] k pos) (gStar1 X.K t) := by
  refine ⟨fun pins s σ H v u Q I r hw => ?_⟩
  obtain ⟨a, x, xs, ev, hq, hl, hw⟩ := hw
  subst ev
  cases r
  obtain ⟨its, rv, pl, hz⟩ := I.list hq
  have hl' : s.heap.IsList a its.toArray := pl.isList
  cases rv with
  | @cons _ u1 _ us r1 rr =>
    have hlen : us.length = xs.length := (Vals.length rr).symm
    rw [PyProof.Rows.assign_Tuple]
    refine wpAny_bind (wpAny_standAt ?_)
    unfold unpack
    rw [hn, hst, hm]
    refine wpAny_bind (wpAny_holding (star_items hl' (I.ok.hd hc) (by simp) (by simp; omega) fun h2 tk he => ?_))
    have I1 : Inv X pins σ H { s with heap := h2, toks := tk } := I.kept (t' := tk) fun b o e => he b o (Nat.ne_of_lt (Heap.lt_size e)) e
    have hf : H h2.objs.size = none := I1.hok.fresh (Nat.le_refl _)
    have I2 : Inv X pins σ (upd H h2.objs.size (.lst xs)) { s with heap := h2.push (seqObj "list" us.toArray 0), toks := tk } :=
      I1.laid (t' := tk) (fun b u e => Heap.get?_push_of_some _ e) (Nat.le_refl _) ⟨small hl, us, 0, rr, Heap.get?_push_size _ rfl⟩
    have e1 : (u1 :: us).toArray.toList.take 1 ++ [Value.ref h2.objs.size] = [u1, .ref h2.objs.size] := by simp
    have e2 : ((u1 :: us).toArray.toList.drop 1).toArray = us.toArray := by simp
    rw [e1, e2]
    exact h.run pins _ σ _ [x, .ref h2.objs.size] _ Q I2 (.cons r1 (.cons rfl .nil)) (hw _ hf)
end JT
/-! N4: is_net, names_of, joins_of. -/
namespace JT
open PySem PySem.Spec PyProof.Rows L2 PySem.W
abbrev s_are_led_to : Stmt := topS 30
abbrev n_are_led_to : List Str := ["net", "first", "others", "ways", "row"]
theorem sc_are_led_to : FnScope n_are_led_to ["net"] (defScope s_are_led_to) :=
  ⟨rfl, rfl, rfl, by decide +kernel, rfl, by decide +kernel, by decide +kernel⟩
section
variable {P : Program} {w : World} {K : PySem.W.Frag} {mg : Str → Option Value} {base : Heap}
theorem shaped_ints (ns : List Int) : SeqAt.shaped (.list (ns.map PyData.int)) = true := by
  have h1 : ∀ ns : List Int, PyData.canLayAll0 (ns.map PyData.int) = true := fun ns => by
    induction ns with
    | nil => rfl
    | cons n ns ih =>
      show ((PyData.int n).canLay0 && PyData.canLayAll0 (ns.map PyData.int)) = true
      rw [ih]
      rfl
  have h2 : ∀ ns : List Int, PyData.depthAll (ns.map PyData.int) = 0 := fun ns => by
    induction ns with
    | nil => rfl
    | cons n ns ih =>
      show max (PyData.int n).depth (PyData.depthAll (ns.map PyData.int)) = 0
      rw [ih]
      rfl
  show (PyData.canLayAll0 (ns.map PyData.int) && decide (PyData.depthAll (ns.map PyData.int) + 1 ≤ 64)) = true
  rw [h1, h2]
  rfl
theorem eqv_ints (ns : List Int) : PyData.eqv (.list (ns.map PyData.int)) (.list (ns.map PyData.int)) = true := by
  refine SeqAt.eqv_refl _ ?_
  have := SeqAt.canLay_of_shaped (shaped_ints ns)
  exact this
theorem dq_ints {H : Hp} {a : Addr} {ns : List Int} (h : H a = some (.lst (ns.map V.int))) : Dq H (.ref a) (.list (ns.map PyData.int)) := .inr ⟨a, _, _, rfl, h, DTs.ints ns, rfl⟩
def spLed : Sp := fun vs H Q _ => ∃ v N, vs = [v] ∧ DT H v (encN N) ∧ 1 ≤ N.length ∧ N.length ≤ 60 ∧ (∀ i k, k ∈ kidsAt N i → k < N.length) ∧ (∀ i, (kidsAt N i).length ≤ 100) ∧ (∀ k, k < N.length → (ways N k).length = dueWays N k) ∧ (∀ k : Nat, N[0]? ≠ some (Row.join k)) ∧ ∀ H', Same H H' → Q (.bl true) H'
theorem c_are_led_to (T : Top mg) (D : Def K mg "are_led_to" "are_led_to" s_are_led_to) (C_all_ways : Cal P w K mg base 2 "all_ways" spWays) : Cal P w K mg base 3 "are_led_to" spLed := by
  refine D.cal sc_are_led_to (fun _ _ _ _ _ _ us hl => match us, hl with | [_], _ => rfl) (fun vs H Q E h => ?_) fun f cdv A outer s H vs Q E hr hsp => ?_
  · obtain ⟨_, _, rfl, _⟩ := h; rfl
  have hu64 := hu64_of hr
  refine ⟨_, (pss_cons (ps_asg (pe_lc (own := [("ways", 3)]) (g := gName 3) (tt := tYes) rfl sc_are_led_to.nd (pi_listK K (pe_f C_all_ways hr rfl (pa_cons (pv 0) pa_nil))) (blkOk_by (own := [("ways", 3)]) (N := n_are_led_to) (sc := defScope s_are_led_to) (by decide +kernel)) (fun _ _ _ _ _ => (pg_name (i := 3) sc_are_led_to.nd rfl (Or.inl rfl))) (fun _ _ _ _ _ => pts_nil) (fun _ _ _ _ _ => (pe_callB lenq rfl T.len PySem.boot_len (pa_cons (pv 3) pa_nil)))) (pg_star1 rfl (pgs_cons (pg_name (i := 1) sc_are_led_to.nd rfl (Or.inl rfl)) (pgs_cons (pg_name (i := 2) sc_are_led_to.nd rfl (Or.inl rfl)) pgs_nil))))
    (pss_cons (ps_if (PW.pt (pw_or (pt_cmpR op_ne (pv 1) pe_int (nomark _)) (pw_or1 (pt_cmpR op_eq (pe_ix ixt (pe_ix ixt (pv 0) pe_int (fun _ _ => rfl)) pe_int (fun _ _ => rfl)) pe_str (nomark _))))) (pss_one (ps_ret pe_bl)) pss_nil)
    (pss_one (ps_ret (pe_cmpR (eqd hu64) (pv 2) (pe_lc (own := [("row", 4)]) (g := gName 4) (tt := tYes) rfl sc_are_led_to.nd (pi_tupK K (pe_slice slt (pv 0) (po_some pe_int) po_none)) (blkOk_by (own := [("row", 4)]) (N := n_are_led_to) (sc := defScope s_are_led_to) (by decide +kernel)) (fun _ _ _ _ _ => (pg_name (i := 4) sc_are_led_to.nd rfl (Or.inl rfl))) (fun _ _ _ _ _ => pts_nil) (fun _ _ _ _ _ => (pe_ifExp (pt_cmpR op_eq (pe_ix ixt (pv 4) pe_int (fun _ _ => rfl)) pe_str (nomark _)) pe_int pe_int))) (nomark _)))))), ?_⟩
  obtain ⟨v, N, rfl, hd, h1, h60, hk, hk2, hled, hroot, q⟩ := hsp
  obtain ⟨a, xs, rfl, ha, hlen, hrow⟩ := net_at hd
  refine ⟨_, rfl, _, N, rfl, hd, h60, hk, hk2, fun H1 l ls S1 l0 hl hll hw => ⟨l, rfl, ⟨_, sl_at hl⟩, fun D hD => ?_⟩⟩
  refine lc_map (n := N.length) (fun _ => true) (fun i => .int (dueWays N i : Nat)) hD (by omega) (fun i H2 hi hS => go_lst (hS _ _ hl) (by rw [List.length_map]; omega)) (fun H2 hS => st_lst (hS _ _ hl) (by rw [List.length_map]; omega)) (fun i H2 x H3 Kt Kf hi hS hy hKt hKf => ?_) fun H2 hS2 hl2 => ?_
  · obtain ⟨rfl, hx⟩ := hy
    have hx := hx _ (sl_at (hS _ _ hl))
    rw [List.getElem?_map, List.getElem?_eq_getElem (show i < ls.length by omega)] at hx
    cases hx
    refine ⟨rfl, _, rfl, _, _, rfl, .inl (hS _ _ (hw i _ (List.getElem?_eq_getElem (show i < ls.length by omega)))), ?_⟩
    rw [List.length_map]
    have e : (waysOf (edges N) i).length = dueWays N i := hled i hi
    rw [e]
    exact hKt rfl _ (Same.refl' _)
  · rw [kept_all] at hl2
    have hns : (List.range N.length).map (fun i => V.int (dueWays N i : Nat)) = .int 0 :: (List.range (N.length - 1)).map fun i => V.int (dueWays N (i + 1) : Nat) := by
      have e : N.length = (N.length - 1) + 1 := by omega
      rw [e, List.range_succ_eq_map, List.map_cons, List.map_map]
      simp [dueWays]
    rw [hns] at hl2
    refine ⟨D, _, _, rfl, sl_at hl2, by rw [List.length_map, List.length_range]; omega, fun p np => ⟨_, _, rfl, _, _, rfl, rfl, ?_⟩⟩
    have S3 : Same H (upd H2 p (.lst ((List.range (N.length - 1)).map fun i => V.int (dueWays N (i + 1) : Nat)))) := Same.trans' S1 (Same.trans' hS2 (same_upd np))
    have hp3 : upd H2 p (.lst ((List.range (N.length - 1)).map fun i => V.int (dueWays N (i + 1) : Nat))) p = some (.lst ((List.range (N.length - 1)).map fun i => V.int (dueWays N (i + 1) : Nat))) := upd_same
    generalize upd H2 p (.lst ((List.range (N.length - 1)).map fun i => V.int (dueWays N (i + 1) : Nat))) = H3 at S3 hp3 ⊢
    obtain ⟨r0, er0, hd0⟩ := hrow 0 _ (List.getElem?_eq_getElem (show 0 < xs.length by omega))
    obtain ⟨b0, y0, eb0, hb0, hy0⟩ := row_at hd0
    refine ⟨_, rfl, rfl, _, rfl, iteNS rfl ?_⟩
    refine ⟨_, rfl, a, xs, 0, _, rfl, rfl, S3 _ _ ha, atI_nat (j := 0) (by rw [List.getElem?_eq_getElem (show 0 < xs.length by omega), eb0]), b0, _, 0, _, rfl, rfl, S3 _ _ hb0, atI_nat (j := 0) rfl, rfl, _, rfl, iteN (fun z => ?_) ?_⟩
    · have e : r0.tag = "join" := by injection z
      have e2 := tag_join.mp e
      cases r0 with
      | join k => exact hroot k er0
      | leaf _ => cases e2
      | fork _ => cases e2
    · refine ⟨_, rfl, _, rfl, 1, rfl, a, xs, rfl, S3 _ _ ha, ?_⟩
      · intro p4 H4 S4' hp4
        have ec : cutV xs (some 1) none = xs.drop 1 := cut_from xs 1
        rw [ec] at hp4
        have S4 : Same H H4 := Same.trans' S3 S4'
        have hp5 : H4 p = _ := S4' _ _ hp3
        refine ⟨p4, rfl, ⟨_, sq_at hp4⟩, fun D5 hD5 => ?_⟩
        refine lc_map (n := N.length - 1) (fun _ => true) (fun i => .int (dueWays N (i + 1) : Nat)) hD5 (by omega) (fun i H5 hi hS => go_tup (hS _ _ hp4) (by rw [List.length_drop]; omega)) (fun H5 hS => st_tup (hS _ _ hp4) (by rw [List.length_drop]; omega)) (fun i H5 x H6 Kt Kf hi hS hy hKt hKf => ?_) fun H5 hS5 hl5 => ?_
        · obtain ⟨rfl, hx⟩ := hy
          have hx := hx _ (sq_at (hS _ _ hp4))
          rw [List.getElem?_drop] at hx
          obtain ⟨r, er, hd1⟩ := hrow _ _ hx
          obtain ⟨b, y, rfl, hb, hy⟩ := row_at hd1
          have SH := Same.trans' S4 hS
          refine ⟨rfl, _, rfl, b, _, 0, _, rfl, rfl, SH _ _ hb, atI_nat (j := 0) rfl, rfl, _, rfl, ?_⟩
          have ed : dueWays N (i + 1) = if r.tag = "join" then 2 else 1 := by
            unfold dueWays
            rw [if_neg (by omega), show i + 1 = 1 + i by omega, er]
            have h1 : ¬ (("leaf" : Str) = "join") := by decide
            have h2 : ¬ (("fork" : Str) = "join") := by decide
            cases r with
            | leaf z => exact (if_neg h1).symm
            | fork ks => exact (if_neg h2).symm
            | join k => exact (if_pos rfl).symm
          refine ite2 (fun h => ?_) (fun h => ?_)
          · have h : r.tag = "join" := by
              have := of_decide_eq_true h
              injection this
            rw [ed, if_pos h] at hKt
            exact hKt rfl _ (Same.refl' _)
          · have h : ¬ r.tag = "join" := fun e => h (decide_eq_true (by rw [e]))
            rw [ed, if_neg h] at hKt
            exact hKt rfl _ (Same.refl' _)
        · rw [kept_all] at hl5
          have en : ((List.range (N.length - 1)).map fun i => V.int (dueWays N (i + 1) : Nat)) = ((List.range (N.length - 1)).map fun i => (dueWays N (i + 1) : Int)).map V.int := by
            rw [List.map_map]
            rfl
          rw [en] at hl5 hp5
          refine ⟨_, _, dq_ints (hS5 _ _ hp5), dq_ints hl5, shaped_ints _, shaped_ints _, bl_true (eqv_ints _) (q _ (Same.trans' S4 hS5))⟩
end
end JT
/-! N5: is_net, names_of, joins_of. -/
namespace JT
open PySem PySem.Spec PyProof.Rows L2 PySem.W
abbrev s_is_net : Stmt := topS 31
abbrev n_is_net : List Str := ["thing", "names", "at", "row"]
theorem sc_is_net : FnScope n_is_net ["thing"] (defScope s_is_net) :=
  ⟨rfl, rfl, rfl, by decide +kernel, rfl, by decide +kernel, by decide +kernel⟩
abbrev s_names_of : Stmt := topS 32
abbrev n_names_of : List Str := ["net", "word", "what"]
theorem sc_names_of : FnScope n_names_of ["net"] (defScope s_names_of) :=
  ⟨rfl, rfl, rfl, by decide +kernel, rfl, by decide +kernel, by decide +kernel⟩
abbrev s_joins_of : Stmt := topS 33
abbrev n_joins_of : List Str := ["net", "at", "row"]
theorem sc_joins_of : FnScope n_joins_of ["net"] (defScope s_joins_of) :=
  ⟨rfl, rfl, rfl, by decide +kernel, rfl, by decide +kernel, by decide +kernel⟩
abbrev s__law_joins : Stmt := topS 70
abbrev n__law_joins : List Str := ["_law_net_here", "_law_at", "_law_row"]
theorem sc__law_joins : FnScope n__law_joins ["_law_net_here"] (defScope s__law_joins) :=
  ⟨rfl, rfl, rfl, by decide +kernel, rfl, by decide +kernel, by decide +kernel⟩
section
variable {P : Program} {w : World} {K : PySem.W.Frag} {mg : Str → Option Value} {base : Heap}
theorem rising_sorted : ∀ {l : List Str} {p : Str}, risingS p l = true → (p :: l).Pairwise (fun a b => a.cps.toList ≤ b.cps.toList)
  | [], p, _ => List.pairwise_singleton _ _
  | x :: r, p, h => by
    have h : (!ltCps x.cps.toList p.cps.toList && risingS x r) = true := h
    rw [Bool.and_eq_true] at h
    obtain ⟨h1, h2⟩ := h
    have ih := rising_sorted h2
    have hpx : p.cps.toList ≤ x.cps.toList := by
      rw [ltCps_eq] at h1
      exact List.not_lt.mp (by simpa using h1)
    refine List.pairwise_cons.mpr ⟨fun y hy => ?_, ih⟩
    rcases List.mem_cons.mp hy with e | hy
    · rw [e]
      exact hpx
    · exact List.le_trans hpx ((List.pairwise_cons.mp ih).1 y hy)
theorem sorted_le {l : List Str} (h : sortedS l = true) : l.Pairwise (fun a b => a.cps.toList ≤ b.cps.toList) := by
  cases l with
  | nil => exact .nil
  | cons x r => exact rising_sorted h
theorem sorted_lt {l : List Str} (h : sortedS l = true) (nd : l.Nodup) : l.Pairwise sLt := ((sorted_le h).and nd).imp fun ⟨q, n⟩ => sLt_of q n
/-- what rows pick, in turn -/
theorem kept_pick {N : Net} (g : Row → Option Str) (p : Nat → Bool) (f : Nat → V) (hp : ∀ i r, N[i]? = some r → p i = (g r).isSome) (hf : ∀ i r s, N[i]? = some r → g r = some s → f i = .str s) : ∀ i, i ≤ N.length → kept p f i = ((N.take i).filterMap g).map V.str
  | 0, _ => rfl
  | i + 1, hi => by
    have hr : N[i]? = some N[i] := List.getElem?_eq_getElem hi
    rw [kept_succ, kept_pick g p f hp hf i (by omega), List.take_add_one, hr, List.filterMap_append, List.map_append, hp i _ hr]
    cases e : g N[i] with
    | none => simp [e]
    | some s => simp [e, hf i _ s hr e]
theorem nnames_len (N : Net) : (names N).length ≤ N.length := List.length_filterMap_le _ _
def isLeafAt (N : Net) (i : Nat) : Bool := match N[i]? with
  | some r => r.isLeaf
  | none => false
def nameAt (N : Net) (i : Nat) : V := match N[i]? with
  | some (.leaf s) => .str s
  | _ => .non
theorem nameAt_leaf {N : Net} {i : Nat} {s : Str} (h : N[i]? = some (Row.leaf s)) : nameAt N i = .str s := by
  unfold nameAt
  rw [h]
theorem kept_names (N : Net) : kept (isLeafAt N) (nameAt N) N.length = (names N).map V.str := by
  rw [kept_pick Row.name? (isLeafAt N) (nameAt N) (fun i r e => ?_) (fun i r s e es => ?_) N.length (Nat.le_refl _), List.take_length]
  · rfl
  · unfold isLeafAt
    rw [e]
    cases r <;> rfl
  · unfold nameAt
    rw [e]
    cases r <;> cases es
    rfl
def isJoinAt (N : Net) (i : Nat) : Bool := match N[i]? with
  | some r => r.isJoin
  | none => false
theorem kept_joins (N : Net) : kept (isJoinAt N) natV N.length = (joins N).map natV := rfl
/-- a row of the walked net -/
theorem dec_tag {r : Row} {z : Str} : decide (V.str r.tag = V.str z) = decide (r.tag = z) := by simp
def spJoins (tup : Bool) : Sp := fun vs H Q _ => ∃ v N, vs = [v] ∧ DT H v (encN N) ∧ N.length ≤ 60 ∧ ∀ H' p, Same H H' → H p = none → H' p = some (if tup = true then .tup ((joins N).map natV) else .lst ((joins N).map natV)) → Q (.ref p) H'
theorem c_joins_of (T : Top mg) (D : Def K mg "joins_of" "joins_of" s_joins_of) : Cal P w K mg base 1 "joins_of" (spJoins true) := by
  refine D.cal sc_joins_of (fun _ _ _ _ _ _ us hl => match us, hl with | [_], _ => rfl) (fun vs H Q E h => ?_) fun f cdv A outer s H vs Q E hr hsp => ?_
  · obtain ⟨_, _, rfl, _⟩ := h; rfl
  refine ⟨_, (pss_one (ps_ret (pe_callTy tupOf rfl T.tuple (by decide +kernel) (pa_cons (pe_lc (own := [("at", 1), ("row", 2)]) rfl sc_joins_of.nd (pi_enumT rfl T.enumerate (pa_cons (pv 0) pa_nil)) (blkOk_by (own := [("at", 1), ("row", 2)]) (N := n_joins_of) (sc := defScope s_joins_of) (by decide +kernel)) (fun _ _ _ _ _ => (pgt (n := 2) rfl (pgs_cons (pg_name (i := 1) sc_joins_of.nd rfl (Or.inl rfl)) (pgs_cons (pg_name (i := 2) sc_joins_of.nd rfl (Or.inl rfl)) pgs_nil)))) (fun _ _ _ _ _ => (pts_one (pt_cmpR op_eq (pe_ix ixt (pv 2) pe_int (fun _ _ => rfl)) pe_str (nomark _)))) (fun _ _ _ _ _ => (pv 1))) pa_nil)))), ?_⟩
  obtain ⟨v, N, rfl, hd, h60, q⟩ := hsp
  obtain ⟨a, xs, rfl, ha, hlen, hrow⟩ := net_at hd
  refine ⟨_, rfl, a, xs, rfl, sq_at ha, fun D hD => ?_⟩
  refine lc_map (n := N.length) (isJoinAt N) natV hD (by omega) (fun i H1 hi hS => ⟨xs, xs[i], sq_at (hS _ _ ha), by simp [show i < xs.length by omega]⟩) (fun H1 hS => ⟨xs, sq_at (hS _ _ ha), by omega⟩) (fun i H1 x H2 Kt Kf hi hS hy hKt hKf => ?_) fun H1 hS hl => ?_
  · obtain ⟨t, y, rfl, ht, rfl, hx⟩ := hy
    obtain ⟨r, er, hd1⟩ := hrow i y (hx xs (sq_at (hS _ _ ha)))
    obtain ⟨b, z, rfl, hb, hz⟩ := row_at hd1
    have S2 : Same H1 (upd H1 t (.tup [.int (i : Nat), .ref b])) := same_upd ht
    refine ⟨t, _, rfl, upd_same, rfl, _, _, rfl, _, _, rfl, rfl, rfl, ?_⟩
    refine ⟨_, rfl, b, _, 0, _, rfl, rfl, S2 _ _ (hS _ _ hb), atI_nat (j := 0) rfl, rfl, _, rfl, ?_⟩
    have ej : isJoinAt N i = r.isJoin := by unfold isJoinAt; rw [er]
    rw [ej] at hKt hKf
    refine ite2 (fun h => ?_) fun h => ?_
    · rw [dec_tag] at h
      exact ⟨_, rfl, hKt (tag_join.mp (of_decide_eq_true h)) _ S2⟩
    · rw [dec_tag] at h
      refine hKf ?_ _ S2
      cases e : r.isJoin with
      | false => rfl
      | true => exact absurd (decide_eq_true (tag_join.mpr e)) h
  · refine ⟨D, _, rfl, hl, fun p np => q _ p (Same.trans' hS (same_upd np)) ?_ upd_same⟩
    cases e : H p with
    | none => rfl
    | some o => rw [hS _ _ e] at np; cases np
theorem c__law_joins (T : Top mg) (D : Def K mg "_law_joins" "_law_joins" s__law_joins) : Cal P w K mg base 1 "_law_joins" (spJoins false) := by
  refine D.cal sc__law_joins (fun _ _ _ _ _ _ us hl => match us, hl with | [_], _ => rfl) (fun vs H Q E h => ?_) fun f cdv A outer s H vs Q E hr hsp => ?_
  · obtain ⟨_, _, rfl, _⟩ := h; rfl
  refine ⟨_, (pss_one (ps_ret (pe_lc (own := [("_law_at", 1), ("_law_row", 2)]) rfl sc__law_joins.nd (pi_enumT rfl T.enumerate (pa_cons (pv 0) pa_nil)) (blkOk_by (own := [("_law_at", 1), ("_law_row", 2)]) (N := n__law_joins) (sc := defScope s__law_joins) (by decide +kernel)) (fun _ _ _ _ _ => (pgt (n := 2) rfl (pgs_cons (pg_name (i := 1) sc__law_joins.nd rfl (Or.inl rfl)) (pgs_cons (pg_name (i := 2) sc__law_joins.nd rfl (Or.inl rfl)) pgs_nil)))) (fun _ _ _ _ _ => (pts_one (pt_cmpR op_eq (pe_ix ixt (pv 2) pe_int (fun _ _ => rfl)) pe_str (nomark _)))) (fun _ _ _ _ _ => (pv 1))))), ?_⟩
  obtain ⟨v, N, rfl, hd, h60, q⟩ := hsp
  obtain ⟨a, xs, rfl, ha, hlen, hrow⟩ := net_at hd
  refine ⟨_, rfl, a, xs, rfl, sq_at ha, fun D hD => ?_⟩
  refine lc_map (n := N.length) (isJoinAt N) natV hD (by omega) (fun i H1 hi hS => ⟨xs, xs[i], sq_at (hS _ _ ha), by simp [show i < xs.length by omega]⟩) (fun H1 hS => ⟨xs, sq_at (hS _ _ ha), by omega⟩) (fun i H1 x H2 Kt Kf hi hS hy hKt hKf => ?_) fun H1 hS hl => q _ _ hS hD hl
  obtain ⟨t, y, rfl, ht, rfl, hx⟩ := hy
  obtain ⟨r, er, hd1⟩ := hrow i y (hx xs (sq_at (hS _ _ ha)))
  obtain ⟨b, z, rfl, hb, hz⟩ := row_at hd1
  have S2 : Same H1 (upd H1 t (.tup [.int (i : Nat), .ref b])) := same_upd ht
  refine ⟨t, _, rfl, upd_same, rfl, _, _, rfl, _, _, rfl, rfl, rfl, ?_⟩
  refine ⟨_, rfl, b, _, 0, _, rfl, rfl, S2 _ _ (hS _ _ hb), atI_nat (j := 0) rfl, rfl, _, rfl, ?_⟩
  have ej : isJoinAt N i = r.isJoin := by unfold isJoinAt; rw [er]
  rw [ej] at hKt hKf
  refine ite2 (fun h => ?_) fun h => ?_
  · rw [dec_tag] at h
    exact ⟨_, rfl, hKt (tag_join.mp (of_decide_eq_true h)) _ S2⟩
  · rw [dec_tag] at h
    refine hKf ?_ _ S2
    cases e : r.isJoin with
    | false => rfl
    | true => exact absurd (decide_eq_true (tag_join.mpr e)) h
def spNames : Sp := fun vs H Q _ => ∃ v N, vs = [v] ∧ DT H v (encN N) ∧ N.length ≤ 60 ∧ (names N).Nodup ∧ ∀ H' p (ys : List Str), Same H H' → H' p = some (.tup (ys.map V.str)) → ys.Perm (names N) → ys.Pairwise sLt → Q (.ref p) H'
theorem c_names_of (T : Top mg) (D : Def K mg "names_of" "names_of" s_names_of) : Cal P w K mg base 1 "names_of" spNames := by
  refine D.cal sc_names_of (fun _ _ _ _ _ _ us hl => match us, hl with | [_], _ => rfl) (fun vs H Q E h => ?_) fun f cdv A outer s H vs Q E hr hsp => ?_
  · obtain ⟨_, _, rfl, _⟩ := h; rfl
  refine ⟨_, (pss_one (ps_ret (pe_callTy tupOf rfl T.tuple (by decide +kernel) (pa_cons (pe_callB srtS rfl T.sorted (by decide +kernel) (pa_cons (pe_lc (own := [("word", 1), ("what", 2)]) rfl sc_names_of.nd (pi_tupK K (pv 0)) (blkOk_by (own := [("word", 1), ("what", 2)]) (N := n_names_of) (sc := defScope s_names_of) (by decide +kernel)) (fun _ _ _ _ _ => (pgt (n := 2) rfl (pgs_cons (pg_name (i := 1) sc_names_of.nd rfl (Or.inl rfl)) (pgs_cons (pg_name (i := 2) sc_names_of.nd rfl (Or.inl rfl)) pgs_nil)))) (fun _ _ _ _ _ => (pts_one (pt_cmpR op_eq (pv 1) pe_str (nomark _)))) (fun _ _ _ _ _ => (pv 2))) pa_nil)) pa_nil)))), ?_⟩
  obtain ⟨v, N, rfl, hd, h60, hnd, q⟩ := hsp
  obtain ⟨a, xs, rfl, ha, hlen, hrow⟩ := net_at hd
  refine ⟨_, rfl, a, rfl, ⟨xs, sq_at ha⟩, fun D hD => ?_⟩
  refine lc_map (n := N.length) (isLeafAt N) (nameAt N) hD (by omega) (fun i H1 hi hS => go_tup (hS _ _ ha) (by omega)) (fun H1 hS => st_tup (hS _ _ ha) (by omega)) (fun i H1 x H2 Kt Kf hi hS hy hKt hKf => ?_) fun H1 hS hl => ?_
  · obtain ⟨rfl, hx⟩ := hy
    obtain ⟨r, er, hd1⟩ := hrow i x (hx xs (sq_at (hS _ _ ha)))
    obtain ⟨b, z, rfl, hb, hz⟩ := row_at hd1
    refine ⟨b, _, rfl, hS _ _ hb, rfl, _, _, rfl, _, _, rfl, rfl, rfl, ?_⟩
    have ej : isLeafAt N i = r.isLeaf := by unfold isLeafAt; rw [er]
    rw [ej] at hKt hKf
    refine ⟨_, rfl, rfl, _, rfl, ?_⟩
    refine ite2 (fun h => ?_) fun h => ?_
    · rw [dec_tag] at h
      have e2 := tag_leaf.mp (of_decide_eq_true h)
      cases r with
      | leaf s =>
        rw [show z = .str s from DT.of_str hz]
        rw [nameAt_leaf er] at hKt
        exact ⟨_, rfl, hKt rfl _ (Same.refl' _)⟩
      | fork ks => cases e2
      | join k => cases e2
    · rw [dec_tag] at h
      refine hKf ?_ _ (Same.refl' _)
      cases e : r.isLeaf with
      | false => rfl
      | true => exact absurd (decide_eq_true (tag_leaf.mpr e)) h
  · rw [kept_names] at hl
    refine ⟨D, names N, rfl, hl, by have := nnames_len N; omega, fun ys p pm so np => ?_⟩
    refine ⟨p, _, rfl, upd_same, fun l hl2 => q _ l ys (Same.trans' hS (Same.trans' (same_upd np) (same_upd hl2))) upd_same pm (sorted_lt so (pm.nodup_iff.mpr hnd))⟩
theorem Good.rowOk {N : Net} (G : Good N) {i : Nat} {r : Row} (h : N[i]? = some r) : RowOk i N.length r := by
  have ek := kidsAt_some h
  cases r with
  | leaf s => exact G.nameOk s (List.mem_filterMap.mpr ⟨_, List.mem_of_getElem? h, rfl⟩)
  | fork ks =>
    obtain ⟨h2, nd⟩ := G.two i ks h
    have ek : kidsAt N i = ks := ek
    refine ⟨h2, ?_, G.rise i ks h, fun k hk => ⟨G.down i k (by rw [ek]; exact hk), G.lt i k (by rw [ek]; exact hk)⟩⟩
    have z := nodup_le (m := List.range N.length) nd fun k hk => List.mem_range.mpr (G.lt i k (by rw [ek]; exact hk))
    rw [List.length_range] at z
    have := G.len
    omega
  | join k => exact ⟨G.down i k (by rw [ek]; simp [Row.kids]), G.lt i k (by rw [ek]; simp [Row.kids])⟩
theorem Loose.kids_le {N : Net} (G : Loose N) (i : Nat) : (kidsAt N i).length ≤ 49 := by
  cases h : N[i]? with
  | none => rw [kidsAt_none (List.getElem?_eq_none_iff.mp h)]; exact Nat.zero_le _
  | some r =>
    have ek := kidsAt_some h
    cases r with
    | leaf s => rw [ek]; exact Nat.zero_le _
    | fork ks =>
      obtain ⟨h2, nd⟩ := G.two i ks h
      have ek : kidsAt N i = ks := ek
      have z := nodup_le (m := List.range N.length) nd fun k hk => List.mem_range.mpr (G.lt i k (by rw [ek]; exact hk))
      rw [List.length_range] at z
      have := G.len
      rw [ek]
      omega
    | join k => rw [ek]; exact (by decide : 1 ≤ 49)
def spIsNet : Sp := fun vs H Q _ => ∃ v N, vs = [v] ∧ DT H v (encN N) ∧ Good N ∧ ∀ H', Same H H' → Q (.bl true) H'
theorem c_is_net (T : Top mg) (D : Def K mg "is_net" "is_net" s_is_net) (C_is_row : Cal P w K mg base 3 "is_row" spIsRow) (C_joins_of : Cal P w K mg base 1 "joins_of" (spJoins true)) (C_are_led_to : Cal P w K mg base 3 "are_led_to" spLed) : Cal P w K mg base 4 "is_net" spIsNet := by
  have C_joins_of := C_joins_of.mono (show 1 ≤ 3 by decide)
  refine D.cal sc_is_net (fun _ _ _ _ _ _ us hl => match us, hl with | [_], _ => rfl) (fun vs H Q E h => ?_) fun f cdv A outer s H vs Q E hr hsp => ?_
  · obtain ⟨_, _, rfl, _⟩ := h; rfl
  refine ⟨_, (pss_cons (ps_if (PW.pt (pw_or (pt_not (pt_val (pe_isi (T := "tuple") rfl T.isinstance rfl T.tuple (by decide +kernel) (pv 0)))) (pw_or1 (pt_not (pt_chain op_le op_le pe_int (pe_callB lenq rfl T.len PySem.boot_len (pa_cons (pv 0) pa_nil)) (pe_ci rfl T.MOST_ROWS)))))) (pss_one (ps_ret pe_bl)) pss_nil)
    (pss_cons (ps_if (pt_not (pt_val (pe_callB (allq rfl) rfl T.all (by decide +kernel) (pa_cons (pe_lc (own := [("at", 2), ("row", 3)]) (tt := tYes) rfl sc_is_net.nd (pi_enumT rfl T.enumerate (pa_cons (pv 0) pa_nil)) (blkOk_by (own := [("at", 2), ("row", 3)]) (N := n_is_net) (sc := defScope s_is_net) (by decide +kernel)) (fun _ _ _ _ _ => (pgt (n := 2) rfl (pgs_cons (pg_name (i := 2) sc_is_net.nd rfl (Or.inl rfl)) (pgs_cons (pg_name (i := 3) sc_is_net.nd rfl (Or.inl rfl)) pgs_nil)))) (fun _ _ _ _ _ => pts_nil) (fun _ _ _ _ _ => (pe_f C_is_row hr rfl (pa_cons (pv 3) (pa_cons (pv 2) (pa_cons (pe_callB lenq rfl T.len PySem.boot_len (pa_cons (pv 0) pa_nil)) pa_nil)))))) pa_nil)))) (pss_one (ps_ret pe_bl)) pss_nil)
    (pss_cons (ps_setLc (i := 1) (own := [("row", 3)]) (g := gName 3) rfl sc_is_net.nd rfl rfl (sw_true rfl rfl rfl (by decide +kernel)) (pi_tupK K (pv 0)) (blkOk_by (own := [("row", 3)]) (N := n_is_net) (sc := defScope s_is_net) (by decide +kernel)) (fun _ _ _ _ _ => (pg_name (i := 3) sc_is_net.nd rfl (Or.inl rfl))) (fun _ _ _ _ _ => (pts_one (pt_cmpR op_eq (pe_ix ixt (pv 3) pe_int (fun _ _ => rfl)) pe_str (nomark _)))) (fun _ _ _ _ _ => (pe_ix ixt (pv 3) pe_int (fun _ _ => rfl))))
    (pss_cons (ps_if (PW.pt (pw_or (pt_cmpR op_gt (pe_callB lenq rfl T.len PySem.boot_len (pa_cons (pv 1) pa_nil)) (pe_ci rfl T.MOST_LEAVES) (nomark _)) (pw_or (pt_cmpR op_lt (pe_lenSetD rfl T.len rfl T.set (pv 1)) (pe_callB lenq rfl T.len PySem.boot_len (pa_cons (pv 1) pa_nil)) (nomark _)) (pw_or1 (pt_cmpR op_gt (pe_callB lenq rfl T.len PySem.boot_len (pa_cons (pe_f C_joins_of hr rfl (pa_cons (pv 0) pa_nil)) pa_nil)) (pe_ci rfl T.MOST_JOINS) (nomark _)))))) (pss_one (ps_ret pe_bl)) pss_nil)
    (pss_one (ps_ret (pe_f C_are_led_to hr rfl (pa_cons (pv 0) pa_nil)))))))), ?_⟩
  obtain ⟨v, N, rfl, hd, G, q⟩ := hsp
  obtain ⟨a, xs, rfl, ha, hlen, hrow⟩ := net_at hd
  have h1 := G.pos
  have h49 := G.len
  refine ⟨_, rfl, _, _, .tup ha, k_tt, _, rfl, iteF ?_⟩
  refine ⟨_, rfl, a, xs, rfl, .inr ha, 1, _, rfl, rfl, _, rfl, iteP (by omega) ⟨_, 60, rfl, rfl, _, rfl, iteNS (by omega) ?_⟩⟩
  refine ⟨_, rfl, a, xs, rfl, sq_at ha, fun D hD => ?_⟩
  refine lc_map (n := N.length) (fun _ => true) (fun _ => .bl true) hD (by omega) (fun i H1 hi hS => ⟨xs, xs[i], sq_at (hS _ _ ha), by simp [show i < xs.length by omega]⟩) (fun H1 hS => ⟨xs, sq_at (hS _ _ ha), by omega⟩) (fun i H1 x H2 Kt Kf hi hS hy hKt hKf => ?_) fun H1 hS hl => ⟨_, _, rfl, hl, _, rfl, iteF ?_⟩
  · obtain ⟨t, y, rfl, ht, rfl, hx⟩ := hy
    obtain ⟨r, er, hd1⟩ := hrow i y (hx xs (sq_at (hS _ _ ha)))
    have S2 : Same H1 (upd H1 t (.tup [.int (i : Nat), y])) := same_upd ht
    refine ⟨t, _, rfl, upd_same, rfl, _, _, rfl, _, _, rfl, rfl, rfl, ?_⟩
    refine ⟨_, rfl, _, rfl, _, rfl, a, xs, rfl, .inr (S2 _ _ (hS _ _ ha)), y, r, i, N.length, by rw [hlen]; rfl, hd1.up (Same.tk (Same.trans' hS S2)), G.rowOk er, fun H3 S3 => hKt rfl _ (Same.trans' S2 S3)⟩
  · refine ⟨_, rfl, a, rfl, ⟨xs, sq_at (hS _ _ ha)⟩, fun D2 hD2 => ?_⟩
    refine lc_map (n := N.length) (isLeafAt N) (nameAt N) hD2 (by omega) (fun i H2 hi hS2 => go_tup (hS2 _ _ (hS _ _ ha)) (by omega)) (fun H2 hS2 => st_tup (hS2 _ _ (hS _ _ ha)) (by omega)) (fun i H2 x H3 Kt Kf hi hS2 hy hKt hKf => ?_) fun H2 hS2 hl2 => ?_
    · obtain ⟨rfl, hx⟩ := hy
      have SH := Same.trans' hS hS2
      obtain ⟨r, er, hd1⟩ := hrow i x (hx xs (sq_at (SH _ _ ha)))
      obtain ⟨b, z, rfl, hb, hz⟩ := row_at hd1
      have ej : isLeafAt N i = r.isLeaf := by unfold isLeafAt; rw [er]
      rw [ej] at hKt hKf
      refine ⟨rfl, _, rfl, b, _, 0, _, rfl, rfl, SH _ _ hb, atI_nat (j := 0) rfl, rfl, _, rfl, ?_⟩
      refine ite2 (fun h => ?_) fun h => ?_
      · rw [dec_tag] at h
        have e2 := tag_leaf.mp (of_decide_eq_true h)
        cases r with
        | leaf s =>
          rw [show z = .str s from DT.of_str hz] at hb
          rw [nameAt_leaf er] at hKt
          exact ⟨_, rfl, b, _, 1, _, rfl, rfl, SH _ _ hb, atI_nat (j := 1) rfl, hKt rfl _ (Same.refl' _)⟩
        | fork ks => cases e2
        | join k => cases e2
      · rw [dec_tag] at h
        refine hKf ?_ _ (Same.refl' _)
        cases e : r.isLeaf with
        | false => rfl
        | true => exact absurd (decide_eq_true (tag_leaf.mpr e)) h
    · rw [kept_names] at hl2
      have SH := Same.trans' hS hS2
      refine ⟨_, rfl, D2, _, rfl, .inl hl2, _, 10, rfl, rfl, _, rfl, iteN (by rw [List.length_map]; have := G.few; omega) ?_⟩
      refine ⟨_, rfl, D2, names N, rfl, sl_at hl2, G.nd, by have := G.few; omega, _, rfl, D2, _, rfl, .inl hl2, _, _, rfl, rfl, _, rfl, iteN (by rw [List.length_map]; omega) ?_⟩
      refine ⟨_, rfl, _, N, rfl, hd.up (Same.tk SH), by omega, fun H3 p S3 p0 hp => ?_⟩
      refine ⟨p, _, rfl, .inr hp, _, 12, rfl, rfl, _, rfl, iteN (by rw [List.length_map]; have := G.jfew; omega) ?_⟩
      have SH3 := Same.trans' SH S3
      exact ⟨_, rfl, _, N, rfl, hd.up (Same.tk SH3), h1, by omega, G.lt, fun i => Nat.le_trans (G.kids_le i) (by decide), G.led, G.root, fun H4 S4 => q _ (Same.trans' SH3 S4)⟩
end
end JT
/-! Mat3: ways down, distances. -/
namespace JT
open PySem PySem.Spec PyProof.Rows L2 PySem.W
/-- l steps down from row i to row j -/
inductive Dn (N : Net) : Nat → Nat → Nat → Prop
  | refl (i : Nat) : Dn N i 0 i
  | step {i k l j : Nat} : k ∈ kidsAt N i → Dn N k l j → Dn N i (l + 1) j
/-- m steps down from row i to the leaf a -/
def Rl (N : Net) (i : Nat) (a : Str) (m : Nat) : Prop := ∃ j, N[j]? = some (Row.leaf a) ∧ Dn N i m j
/-- o is the least such number -/
def Lst (N : Net) (i : Nat) (a : Str) : Option Nat → Prop
  | none => ∀ m, ¬ Rl N i a m
  | some m => Rl N i a m ∧ ∀ m', Rl N i a m' → m ≤ m'
/-- .. by one of the kids ks -/
def LstK (N : Net) (ks : List Nat) (a : Str) : Option Nat → Prop
  | none => ∀ k ∈ ks, ∀ m, ¬ Rl N k a m
  | some m => (∃ k ∈ ks, ∃ m', Rl N k a m' ∧ m = m' + 1) ∧ ∀ k ∈ ks, ∀ m', Rl N k a m' → m ≤ m' + 1
def optMin : Option Nat → Option Nat → Option Nat
  | none, o => o
  | some m, none => some m
  | some m, some n => some (min m n)
theorem lstK_nil {N : Net} {a : Str} : LstK N [] a none := fun k hk => by cases hk
theorem lstK_snoc {N : Net} {ks : List Nat} {k : Nat} {a : Str} {o p : Option Nat} (h : LstK N ks a o) (hk : Lst N k a p) : LstK N (ks ++ [k]) a (optMin o (p.map (· + 1))) := by
  cases o with
  | none =>
    cases p with
    | none =>
      intro j hj m
      rcases List.mem_append.mp hj with hj | hj
      · exact h j hj m
      · rw [List.mem_singleton.mp hj]
        exact hk m
    | some m =>
      refine ⟨⟨k, by simp, m, hk.1, rfl⟩, fun j hj m' hm' => ?_⟩
      rcases List.mem_append.mp hj with hj | hj
      · exact absurd hm' (h j hj m')
      · rw [List.mem_singleton.mp hj] at hm'
        exact Nat.succ_le_succ (hk.2 m' hm')
  | some n =>
    obtain ⟨⟨k0, h0, m0, r0, e0⟩, hmin⟩ := h
    cases p with
    | none =>
      refine ⟨⟨k0, by simp [h0], m0, r0, e0⟩, fun j hj m' hm' => ?_⟩
      rcases List.mem_append.mp hj with hj | hj
      · exact hmin j hj m' hm'
      · rw [List.mem_singleton.mp hj] at hm'
        exact absurd hm' (hk m')
    | some m =>
      refine ⟨?_, fun j hj m' hm' => ?_⟩
      · show ∃ k' ∈ ks ++ [k], ∃ m', Rl N k' a m' ∧ min n (m + 1) = m' + 1
        rcases Nat.le_total n (m + 1) with q | q
        · exact ⟨k0, by simp [h0], m0, r0, by rw [Nat.min_eq_left q, e0]⟩
        · exact ⟨k, by simp, m, hk.1, by rw [Nat.min_eq_right q]⟩
      · rcases List.mem_append.mp hj with hj | hj
        · exact Nat.le_trans (Nat.min_le_left _ _) (hmin j hj m' hm')
        · rw [List.mem_singleton.mp hj] at hm'
          exact Nat.le_trans (Nat.min_le_right _ _) (Nat.succ_le_succ (hk.2 m' hm'))
theorem dn_zero {N : Net} {i j : Nat} (h : Dn N i 0 j) : j = i := by cases h; rfl
theorem dn_succ {N : Net} {i l j : Nat} (h : Dn N i (l + 1) j) : ∃ k, k ∈ kidsAt N i ∧ Dn N k l j := by
  cases h with
  | step a b => exact ⟨_, a, b⟩
theorem lst_leaf {N : Net} {i : Nat} {s a : Str} (h : N[i]? = some (Row.leaf s)) (nd : (names N).Nodup) : Lst N i a (if a = s then some 0 else none) := by
  have hk : kidsAt N i = [] := kidsAt_some h
  split
  · rename_i e
    subst e
    exact ⟨⟨i, h, .refl i⟩, fun m _ => Nat.zero_le m⟩
  · rename_i e
    rintro m ⟨j, hj, d⟩
    cases d with
    | refl =>
      rw [h] at hj
      cases hj
      exact e rfl
    | step a b => rw [hk] at a; cases a
theorem lst_inner {N : Net} {i : Nat} {a : Str} {o : Option Nat} (h : ∀ s, N[i]? ≠ some (Row.leaf s)) (hk : LstK N (kidsAt N i) a o) : Lst N i a o := by
  have low : ∀ m, Rl N i a m → ∃ k ∈ kidsAt N i, ∃ m', Rl N k a m' ∧ m = m' + 1 := by
    rintro m ⟨j, hj, d⟩
    cases d with
    | refl => exact absurd hj (h a)
    | step q b => exact ⟨_, q, _, ⟨j, hj, b⟩, rfl⟩
  cases o with
  | none =>
    intro m hm
    obtain ⟨k, q, m', r, _⟩ := low m hm
    exact hk k q m' r
  | some m =>
    obtain ⟨⟨k, q, m', ⟨j, hj, d⟩, e⟩, hmin⟩ := hk
    refine ⟨⟨j, hj, ?_⟩, fun n hn => ?_⟩
    · rw [e]
      exact .step q d
    · obtain ⟨k, q, m', r, e⟩ := low n hn
      rw [e]
      exact hmin k q m' r
theorem lst_unique {N : Net} {i : Nat} {a : Str} {o p : Option Nat} (h : Lst N i a o) (h' : Lst N i a p) : o = p := by
  cases o with
  | none =>
    cases p with
    | none => rfl
    | some m => exact absurd h'.1 (h m)
  | some n =>
    cases p with
    | none => exact absurd h.1 (h' n)
    | some m =>
      have a := h.2 m h'.1
      have b := h'.2 n h.1
      rw [Nat.le_antisymm a b]
/-- m is the distance of the leaves a and b -/
structure IsDist (N : Net) (a b : Str) (m : Nat) : Prop where
  ex : ∃ r l l', Rl N r a l ∧ Rl N r b l' ∧ m = l + l'
  least : ∀ r l l', Rl N r a l → Rl N r b l' → m ≤ l + l'
theorem IsDist.unique {N : Net} {a b : Str} {m n : Nat} (h : IsDist N a b m) (h' : IsDist N a b n) : m = n := by
  obtain ⟨r, l, l', h1, h2, e⟩ := h.ex
  obtain ⟨s, k, k', g1, g2, e'⟩ := h'.ex
  have := h.least s k k' g1 g2
  have := h'.least r l l' h1 h2
  omega
theorem Dn.snoc {N : Net} {i l j k : Nat} (h : Dn N i l j) (hk : k ∈ kidsAt N j) : Dn N i (l + 1) k := by
  induction h with
  | refl i => exact .step hk (.refl k)
  | step a b ih => exact .step a (ih hk)
theorem Dn.trans {N : Net} {i l j m k : Nat} (h : Dn N i l j) (g : Dn N j m k) : Dn N i (l + m) k := by
  induction h with
  | refl i => rw [Nat.zero_add]; exact g
  | step a b ih =>
    have := Dn.step a (ih g)
    rw [Nat.add_right_comm]
    exact this
theorem due_pos {N : Net} {i : Nat} (h : 0 < i) : 1 ≤ dueWays N i := by
  unfold dueWays
  rw [if_neg (by omega)]
  split <;> omega
/-- every row is led to from the top -/
theorem Loose.reach {N : Net} (G : Loose N) : ∀ j, j < N.length → ∃ m, Dn N 0 m j := by
  obtain ⟨ρ, hρ⟩ := G.rank
  have main : ∀ n j, ρ j < n → j < N.length → ∃ m, Dn N 0 m j := by
    intro n
    induction n with
    | zero => intro j h; exact absurd h (Nat.not_lt_zero _)
    | succ n ih =>
      intro j h hj
      by_cases h0 : j = 0
      · subst h0
        exact ⟨0, .refl 0⟩
      · have hl := G.led j hj
        have hp := due_pos (N := N) (show 0 < j by omega)
        obtain ⟨i, hi⟩ := List.exists_mem_of_length_pos (show 0 < (ways N j).length by omega)
        have hk := mem_ways.mp hi
        have := hρ i j hk
        obtain ⟨m, d⟩ := ih i (by omega) (kidsAt_lt hk)
        exact ⟨m + 1, d.snoc hk⟩
  exact fun j hj => main (ρ j + 1) j (Nat.lt_succ_self _) hj
theorem mem_names {N : Net} {a : Str} : a ∈ names N ↔ ∃ j : Nat, N[j]? = some (Row.leaf a) := by
  unfold names
  rw [List.mem_filterMap]
  constructor
  · rintro ⟨r, hr, e⟩
    obtain ⟨j, hj⟩ := List.getElem?_of_mem hr
    cases r with
    | leaf s => cases e; exact ⟨j, hj⟩
    | fork ks => cases e
    | join k => cases e
  · rintro ⟨j, h⟩
    exact ⟨_, List.mem_of_getElem? h, rfl⟩
theorem Loose.rl {N : Net} (G : Loose N) {a : Str} (h : a ∈ names N) : ∃ m, Rl N 0 a m := by
  obtain ⟨j, hj⟩ := mem_names.mp h
  obtain ⟨m, d⟩ := G.reach j (List.getElem?_eq_some_iff.mp hj).1
  exact ⟨m, j, hj, d⟩
/-! ### pairs of names -/
def encP (p : Str × Str) : PyData := .tuple [.str p.1, .str p.2]
def pairsRow (ys : List Str) (i : Nat) : List (Str × Str) := (ys.drop (i + 1)).map fun b => (ys.getD i "", b)
def pairsTo (ys : List Str) (i : Nat) : List (Str × Str) := (List.range i).flatMap (pairsRow ys)
def pairs (ys : List Str) : List (Str × Str) := pairsTo ys ys.length
theorem pairsTo_succ (ys : List Str) (i : Nat) : pairsTo ys (i + 1) = pairsTo ys i ++ pairsRow ys i := by
  unfold pairsTo
  rw [List.range_succ, List.flatMap_append]
  simp
theorem pairsTo_len (ys : List Str) : ∀ i, (pairsTo ys i).length ≤ i * ys.length
  | 0 => Nat.zero_le _
  | i + 1 => by
    rw [pairsTo_succ, List.length_append]
    have := pairsTo_len ys i
    have : (pairsRow ys i).length ≤ ys.length := by
      unfold pairsRow
      rw [List.length_map, List.length_drop]
      omega
    rw [Nat.add_mul]
    omega
theorem mem_pairs {ys : List Str} (hs : ys.Pairwise sLt) {a b : Str} : (a, b) ∈ pairs ys ↔ a ∈ ys ∧ b ∈ ys ∧ sLt a b := by
  unfold pairs pairsTo
  rw [List.mem_flatMap]
  constructor
  · rintro ⟨i, hi, h⟩
    have hi := List.mem_range.mp hi
    obtain ⟨c, hc, e⟩ := List.mem_map.mp h
    obtain ⟨j, hj, ej⟩ := List.mem_iff_getElem.mp hc
    rw [List.getElem_drop] at ej
    rw [List.length_drop] at hj
    have ea : ys.getD i "" = ys[i] := by rw [List.getD_eq_getElem?_getD, List.getElem?_eq_getElem hi]; rfl
    injection e with e1 e2
    rw [ea] at e1
    subst e1 e2 ej
    exact ⟨List.getElem_mem _, List.getElem_mem _, List.pairwise_iff_getElem.mp hs i (i + 1 + j) hi (by omega) (by omega)⟩
  · rintro ⟨ha, hb, hl⟩
    obtain ⟨i, hi, ei⟩ := List.mem_iff_getElem.mp ha
    obtain ⟨j, hj, ej⟩ := List.mem_iff_getElem.mp hb
    have hij : i < j := by
      rcases Nat.lt_trichotomy i j with q | q | q
      · exact q
      · subst q
        rw [ei] at ej
        rw [ej] at hl
        exact absurd hl (sLt_irrefl _)
      · have := List.pairwise_iff_getElem.mp hs j i hj hi q
        rw [ei, ej] at this
        exact absurd (sLt_trans hl this) (sLt_irrefl _)
    refine ⟨i, List.mem_range.mpr hi, List.mem_map.mpr ⟨b, List.mem_iff_getElem.mpr ⟨j - (i + 1), by rw [List.length_drop]; omega, ?_⟩, ?_⟩⟩
    · rw [List.getElem_drop]
      have : i + 1 + (j - (i + 1)) = j := by omega
      simp only [this]
      exact ej
    · rw [List.getD_eq_getElem?_getD, List.getElem?_eq_getElem hi, ei]
      rfl
theorem nodup_of_sLt {ys : List Str} (h : ys.Pairwise sLt) : ys.Nodup := h.imp fun {a b} q e => by
  rw [e] at q
  exact sLt_irrefl _ q
theorem pairs_nodup {ys : List Str} (h : ys.Nodup) : (pairs ys).Nodup := by
  have main : ∀ i, i ≤ ys.length → (pairsTo ys i).Nodup := by
    intro i
    induction i with
    | zero => intro _; exact List.nodup_nil
    | succ i ih =>
      intro hi
      rw [pairsTo_succ, List.nodup_append]
      refine ⟨ih (by omega), ?_, fun p hp q hq e => ?_⟩
      · unfold pairsRow
        refine List.pairwise_map.mpr ((List.Nodup.sublist (List.drop_sublist _ _) h).imp ?_)
        intro a b n e
        injection e with _ e
        exact n e
      · subst e
        obtain ⟨j, hj, h1⟩ := List.mem_flatMap.mp hp
        have hj := List.mem_range.mp hj
        obtain ⟨b, _, e1⟩ := List.mem_map.mp h1
        obtain ⟨c, _, e2⟩ := List.mem_map.mp hq
        rw [← e1] at e2
        injection e2 with e2 _
        rw [List.getD_eq_getElem?_getD, List.getD_eq_getElem?_getD, List.getElem?_eq_getElem (show i < ys.length by omega), List.getElem?_eq_getElem (show j < ys.length by omega)] at e2
        have e2 : ys[i] = ys[j] := e2
        have := (List.getElem_inj h).mp e2
        omega
  exact main _ (Nat.le_refl _)
end JT
/-! D1: steps_down. -/
namespace JT
open PySem PySem.Spec PyProof.Rows L2 PySem.W
abbrev s_steps_down : Stmt := topS 35
abbrev n_steps_down : List Str := ["net", "found", "at", "kid", "name", "many", "row"]
theorem sc_steps_down : FnScope n_steps_down ["net"] (defScope s_steps_down) :=
  ⟨rfl, rfl, rfl, by decide +kernel, rfl, by decide +kernel, by decide +kernel⟩
section
variable {P : Program} {w : World} {K : PySem.W.Frag} {mg : Str → Option Value} {base : Heap}
theorem upd_cm {H : Hp} {a b : Addr} {x y : HO} (h : a ≠ b) : upd (upd H a x) b y = upd (upd H b y) a x := by
  funext c
  by_cases h1 : c = a
  · subst h1
    rw [upd_ne h, upd_same, upd_same]
  · by_cases h2 : c = b
    · subst h2
      rw [upd_same, upd_ne h1, upd_same]
    · rw [upd_ne h2, upd_ne h1, upd_ne h1, upd_ne h2]
theorem upd_id {H : Hp} {a : Addr} {x : HO} (h : H a = some x) : upd H a x = H := by
  funext c
  by_cases h1 : c = a
  · subst h1
    rw [upd_same, h]
  · rw [upd_ne h1]
/-- at d a dict of texts that tells F -/
def DictF (H : Hp) (d : Addr) (nm : List Str) (F : Str → Option Nat) : Prop := ∃ kvs : List (Key × V), H d = some (.dK kvs) ∧ (kvs.map (·.1)).Nodup ∧ (∀ k ∈ kvs.map (·.1), ∃ a ∈ nm, k = .inr a) ∧ ∀ a, valV kvs (.inr a) = (F a).map natV
theorem keys_len {kvs : List (Key × V)} {nm : List Str} (nd : (kvs.map (·.1)).Nodup) (h : ∀ k ∈ kvs.map (·.1), ∃ a ∈ nm, k = .inr a) : kvs.length ≤ nm.length := by
  have z := nodup_le (m := nm.map (Sum.inr : Str → Key)) nd fun k hk => by
    obtain ⟨a, ha, e⟩ := h k hk
    rw [e]
    exact List.mem_map_of_mem ha
  rw [List.length_map, List.length_map] at z
  exact z
theorem dictF_put {H : Hp} {d : Addr} {nm : List Str} {F : Str → Option Nat} {kvs : List (Key × V)} {a : Str} {m : Nat} (nd : (kvs.map (·.1)).Nodup) (hk : ∀ k ∈ kvs.map (·.1), ∃ a ∈ nm, k = .inr a) (hv : ∀ a, valV kvs (.inr a) = (F a).map natV) (ha : a ∈ nm) :
    DictF (upd H d (.dK (putK kvs (.inr a) (natV m)))) d nm (fun b => if b = a then some m else F b) := by
  refine ⟨_, upd_same, nd_put _ _ nd, fun k h => ?_, fun b => ?_⟩
  · rcases mem_put.mp h with e | h
    · exact ⟨a, ha, e⟩
    · exact hk k h
  · rw [valV_put]
    by_cases e : b = a
    · rw [if_pos (by rw [e])]
      show some (natV m) = Option.map natV (if b = a then some m else F b)
      rw [if_pos e]
      rfl
    · rw [if_neg (fun z => e (by injection z))]
      show _ = Option.map natV (if b = a then some m else F b)
      rw [if_neg e]
      exact hv b
theorem DictF.frame {H H' : Hp} {d : Addr} {nm : List Str} {F : Str → Option Nat} (h : DictF H d nm F) (k : ∀ o, H d = some o → H' d = some o) : DictF H' d nm F := by
  obtain ⟨kvs, e, r⟩ := h
  exact ⟨kvs, k _ e, r⟩
theorem DictF.ext {H : Hp} {d : Addr} {nm : List Str} {F G : Str → Option Nat} (h : DictF H d nm F) (e : ∀ a, F a = G a) : DictF H d nm G := by
  have : F = G := funext e
  rw [← this]
  exact h
structure Dicts (H H1 : Hp) (D : Addr) (ds : List Addr) (nm : List Str) (S : Nat → Str → Option Nat) : Prop where
  news : News H H1 D ds
  at_ : ∀ i d, ds[i]? = some d → DictF H1 d nm (S i)
theorem Dicts.up {H H1 H2 : Hp} {D : Addr} {ds : List Addr} {nm : List Str} {S : Nat → Str → Option Nat} (h : Dicts H H1 D ds nm S) (s : Same H1 H2) : Dicts H H2 D ds nm S :=
  ⟨h.news.up s, fun i d e => (h.at_ i d e).frame fun o q => s _ _ q⟩
theorem Dicts.put {H H1 : Hp} {D d : Addr} {ds : List Addr} {nm : List Str} {S : Nat → Str → Option Nat} {i : Nat} {u : HO} {F : Str → Option Nat} (h : Dicts H H1 D ds nm S) (e : ds[i]? = some d) (hd : DictF (upd H1 d u) d nm F) : Dicts H (upd H1 d u) D ds nm (fun j => if j = i then F else S j) := by
  refine ⟨h.news.upd (List.mem_of_getElem? e), fun j d' e' => ?_⟩
  by_cases hj : j = i
  · subst hj
    rw [e] at e'
    cases e'
    rw [if_pos rfl]
    exact hd
  · rw [if_neg hj]
    refine (h.at_ j d' e').frame fun o q => ?_
    rw [upd_ne (fun z => by
      subst z
      exact hj ((List.getElem?_inj (List.getElem?_eq_some_iff.mp e').1 h.news.nd).mp (e'.trans e.symm)))]
    exact q
open Classical in
noncomputable def mixF (F G : Str → Option Nat) (ks : List Key) (a : Str) : Option Nat := if Sum.inr a ∈ ks then optMin (F a) ((G a).map (· + 1)) else F a
theorem optMin_none (o : Option Nat) : optMin o none = o := by cases o <;> rfl
theorem mixF_new {F G : Str → Option Nat} {ks : List Key} {nm : Str} {m : Nat} (h : Sum.inr nm ∉ ks) (hg : G nm = some m) (c : Str) :
    mixF F G (ks ++ [.inr nm]) c = if c = nm then some (match F nm with | some n => min n (m + 1) | none => m + 1) else mixF F G ks c := by
  unfold mixF
  by_cases e : c = nm
  · subst e
    rw [if_pos (by simp), if_pos rfl, hg]
    cases F c <;> rfl
  · have : (Sum.inr c ∈ ks ++ [Sum.inr nm]) ↔ (Sum.inr c ∈ ks) := by simp [e]
    rw [if_neg e]
    by_cases q : (Sum.inr c : Key) ∈ ks
    · rw [if_pos (this.mpr q), if_pos q]
    · rw [if_neg (fun z => q (this.mp z)), if_neg q]
theorem mixF_all {F G : Str → Option Nat} {kvs : List (Key × V)} (h : ∀ a, valV kvs (.inr a) = (G a).map natV) (c : Str) : mixF F G (kvs.map (·.1)) c = optMin (F c) ((G c).map (· + 1)) := by
  unfold mixF
  by_cases q : (Sum.inr c : Key) ∈ kvs.map (·.1)
  · rw [if_pos q]
  · rw [if_neg q]
    have : valV kvs (.inr c) = none := by
      cases e : valV kvs (.inr c) with
      | none => rfl
      | some v => exact absurd (L2.valV_in e) q
    rw [h] at this
    rw [Option.map_eq_none_iff.mp this]
    exact (optMin_none _).symm
def spSteps : Sp := fun vs H Q _ => ∃ v N, vs = [v] ∧ DT H v (encN N) ∧ Good N ∧ ∀ H' p ds S, Dicts H H' p ds (names N) S → ds.length = N.length → (∀ i, i < N.length → ∀ a, Lst N i a (S i a)) → H p = none → Q (.ref p) H'
theorem c_steps_down (T : Top mg) (D : Def K mg "steps_down" "steps_down" s_steps_down) (C_kids_of : Cal P w K mg base 1 "kids_of" spKidsOf) : Cal P w K mg base 2 "steps_down" spSteps := by
  refine D.cal sc_steps_down (fun _ _ _ _ _ _ us hl => match us, hl with | [_], _ => rfl) (fun vs H Q E h => ?_) fun f cdv A outer s H vs Q E hr hsp => ?_
  · obtain ⟨_, _, rfl, _⟩ := h; rfl
  have hu := hu_of hr
  refine ⟨_, (pss_cons (ps_setLc (i := 1) (own := [("row", 6)]) (g := gName 6) (tt := tYes) rfl sc_steps_down.nd rfl rfl (sw_true rfl rfl rfl (by decide +kernel)) (pi_tupK K (pv 0)) (blkOk_by (own := [("row", 6)]) (N := n_steps_down) (sc := defScope s_steps_down) (by decide +kernel)) (fun _ _ _ _ _ => (pg_name (i := 6) sc_steps_down.nd rfl (Or.inl rfl))) (fun _ _ _ _ _ => pts_nil) (fun _ _ _ _ _ => pe_dnewK))
    (pss_cons (ps_for PassesOwn.never rfl (pi_range3 rfl T.range (pa_cons (pe_op op_sub (pe_callB lenq rfl T.len PySem.boot_len (pa_cons (pv 0) pa_nil)) pe_int) (pa_cons (pe_un un_neg pe_int) (pa_cons (pe_un un_neg pe_int) pa_nil)))) (pg_name (i := 2) sc_steps_down.nd rfl (Or.inl rfl))
    (pss_cons (ps_if (pt_cmpR op_eq (pe_ix ixt (pe_ix ixt (pv 0) (pv 2) (fun _ _ => rfl)) pe_int (fun _ _ => rfl)) pe_str (nomark _)) (pss_one (ps_dput hu (pe_ix ixl (pv 1) (pv 2) (fun _ _ => rfl)) (pe_ix ixt (pe_ix ixt (pv 0) (pv 2) (fun _ _ => rfl)) pe_int (fun _ _ => rfl)) pe_int rfl)) pss_nil)
    (pss_one (ps_for PassesOwn.never rfl (pi_tupK K (pe_f C_kids_of hr rfl (pa_cons (pe_ix ixt (pv 0) (pv 2) (fun _ _ => rfl)) pa_nil))) (pg_name (i := 3) sc_steps_down.nd rfl (Or.inl rfl))
    (pss_one (ps_lock (ps_for PassesOwn.never rfl (pi_items (pe_ix ixl (pv 1) (pv 3) (fun _ _ => rfl))) (pgt (n := 2) rfl (pgs_cons (pg_name (i := 4) sc_steps_down.nd rfl (Or.inl rfl)) (pgs_cons (pg_name (i := 5) sc_steps_down.nd rfl (Or.inl rfl)) pgs_nil)))
    (pss_one (ps_dput hu (pe_ix ixl (pv 1) (pv 2) (fun _ _ => rfl)) (pv 4) (pe_callB (call_min2 rfl) rfl T.min (by decide +kernel) (pa_cons (pe_op op_add (pv 5) pe_int) (pa_cons (pe_dget2 hu (pe_ix ixl (pv 1) (pv 2) (fun _ _ => rfl)) (pv 4) (pe_op op_add (pv 5) pe_int) ⟨rfl, rfl, rfl, rfl⟩) pa_nil))) rfl)))))))))
    (pss_one (ps_ret (pv 1))))), ?_⟩
  obtain ⟨v, N, rfl, hd, G, q⟩ := hsp
  obtain ⟨a, xs, rfl, ha, hlen, hrow⟩ := net_at hd
  have h1 := G.pos
  have h49 := G.len
  refine ⟨_, rfl, a, rfl, ⟨xs, sq_at ha⟩, fun D hD => ?_⟩
  refine lc_gen (n := xs.length) (fun i H1 => ∃ ls, News H H1 D ls ∧ ls.length = i ∧ ∀ l ∈ ls, H1 l = some (.dK [])) ⟨[], ⟨same_upd hD, upd_same, List.nodup_nil, by simp, by simp⟩, rfl, by simp⟩ (fun i H1 hi ⟨ls, n, _⟩ => go_tup (n.same _ _ ha) hi) (fun H1 ⟨ls, n, _⟩ => st_tup (n.same _ _ ha) (Nat.le_refl _)) (fun i H1 x H2 hi ⟨ls, n, hll, he⟩ hy => ?_) fun H1 ⟨ls, n, hll, he⟩ => ?_
  · obtain ⟨rfl, hx⟩ := hy
    refine ⟨rfl, fun l hl => ⟨ls.map V.ref, ?_, ?_, ls ++ [l], n.snoc hD hl, by rw [List.length_append, hll]; rfl, fun m hm => ?_⟩⟩
    · rw [upd_ne (ne_of_none n.at_ hl)]
      exact n.at_
    · rw [List.length_map]
      exact smallT (by omega)
    · rcases List.mem_append.mp hm with hm | hm
      · rw [upd_ne (n.free m hm).2, upd_ne (ne_of_none (he m hm) hl)]
        exact he m hm
      · rw [List.mem_singleton.mp hm, upd_ne (fun z => by rw [z, n.at_] at hl; cases hl), upd_same]
  · have w0 : Dicts H H1 D ls (names N) (fun _ _ => none) := ⟨n, fun i d e => ⟨[], he d (List.mem_of_getElem? e), List.nodup_nil, by simp, fun _ => rfl⟩⟩
    have S1 := n.same
    have hnm := nnames_len N
    refine ⟨_, rfl, a, xs, rfl, .inr (S1 _ _ ha), (xs.length : Int), 1, rfl, rfl, 1, rfl, 1, rfl, (xs.length : Int) - 1, -1, -1, xs.length, rfl, ?_, ?_⟩
    · have z := RgC.neg (i := (xs.length : Int) - 1) (j := -1) (by omega) (by omega) (by decide) (by decide)
      rw [show ((xs.length : Int) - 1 - -1).toNat = xs.length by omega] at z
      exact z
    · refine for_rangeC (lo := (xs.length : Int) - 1) (c := -1) (n := xs.length) (fun t σ H2 => (∃ s2 s3 s4 s5 s6, σ = [some (.ref a), some (.ref D), s2, s3, s4, s5, s6]) ∧ ∃ S, Dicts H H2 D ls (names N) S ∧ (∀ i, xs.length - t ≤ i → i < xs.length → ∀ b, Lst N i b (S i b)) ∧ ∀ i, i < xs.length - t → ∀ b, S i b = none)
        ⟨⟨_, _, _, _, _, rfl⟩, _, w0, fun i h1 h2 => by omega, fun i _ b => rfl⟩ (fun t σ H2 ht ⟨⟨s2, s3, s4, s5, s6, es⟩, S, dS, hS, hS0⟩ => ?_) fun σ H2 ⟨⟨s2, s3, s4, s5, s6, es⟩, S, dS, hS, hS0⟩ => ?_
      · subst es
        obtain ⟨i, hi⟩ : ∃ i, i = xs.length - 1 - t := ⟨_, rfl⟩
        have hin : i < xs.length := by omega
        have ex : V.int ((xs.length : Int) - 1 + (t : Nat) * -1) = natV i := by
          unfold natV
          congr 1
          omega
        rw [ex]
        have hx : xs[i]? = some xs[i] := List.getElem?_eq_getElem hin
        obtain ⟨r, er, hd1⟩ := hrow i _ hx
        obtain ⟨b, y, eb, hb, hy⟩ := row_at hd1
        rw [eb] at hx hd1
        have ek : kidsAt N i = r.kids := kidsAt_some er
        obtain ⟨dd, hdd⟩ : ∃ dd, ls[i]? = some dd := ⟨_, List.getElem?_eq_getElem (by omega)⟩
        have hat : (ls.map V.ref)[i]? = some (.ref dd) := by rw [List.getElem?_map, hdd]; rfl
        have rdn : ∀ {A B : Prop}, A → B → A ∧ B := fun a b => ⟨a, b⟩
        by_cases hlf : ∃ z, r = .leaf z
        · obtain ⟨z, rfl⟩ := hlf
          have eyz : y = .str z := DT.of_str hy
          subst eyz
          have hz : z ∈ names N := List.mem_filterMap.mpr ⟨_, List.mem_of_getElem? er, rfl⟩
          obtain ⟨kvs, e1, e2, e3, e4⟩ := dS.at_ i dd hdd
          refine ⟨_, rfl, _, rfl, a, xs, (i : Int), _, rfl, rfl, dS.news.same _ _ ha, atI_nat hx, b, _, 0, _, rfl, rfl, dS.news.same _ _ hb, atI_nat (j := 0) rfl, rfl, _, rfl, iteP rfl ?_⟩
          refine ⟨_, rfl, _, rfl, D, _, (i : Int), _, rfl, rfl, dS.news.at_, atI_nat hat, _, rfl, _, rfl, a, xs, (i : Int), _, rfl, rfl, dS.news.same _ _ ha, atI_nat hx, b, _, 1, _, rfl, rfl, dS.news.same _ _ hb, atI_nat (j := 1) rfl, dd, _, rfl, DPut.k (k := .inr z) e1 (smallT (by have := keys_len e2 e3; omega)), ?_⟩
          generalize hH3 : upd H2 dd (.dK (putK kvs (.inr z) (V.int 0))) = H3
          have dS' : Dicts H H3 D ls (names N) (fun j => if j = i then (fun b => if b = z then some 0 else S i b) else S j) := by
            rw [← hH3]
            exact dS.put hdd (dictF_put (m := 0) e2 e3 e4 hz)
          refine ⟨_, rfl, _, rfl, a, xs, (i : Int), _, rfl, rfl, dS'.news.same _ _ ha, atI_nat hx, _, .leaf z, rfl, hd1.up (Same.tk dS'.news.same), fun H4 p S4 hp => ⟨p, rfl, ⟨_, sq_at hp⟩, ?_⟩⟩
          refine for_gen (n := 0) (fun _ σ H5 => σ = [some (.ref a), some (.ref D), some (natV i), s3, s4, s5, s6] ∧ H5 = H4) ⟨rfl, rfl⟩ (fun i σ H hi _ => absurd hi (Nat.not_lt_zero _)) (fun σ H5 ⟨_, e⟩ => by rw [e]; exact st_tup hp (Nat.le_refl _)) (fun i σ H x H' hi => absurd hi (Nat.not_lt_zero _)) fun σ H5 ⟨es, eh⟩ => ?_
          subst es eh
          refine ⟨⟨_, _, _, _, _, rfl⟩, _, dS'.up S4, fun j h1 h2 c => ?_, fun j h1 c => ?_⟩
          · by_cases hj : j = i
            · subst hj
              simp only [if_true]
              have l := lst_leaf (a := c) er G.nd
              rw [hS0 j (by omega) c]
              exact l
            · simp only [if_neg hj]
              exact hS j (by omega) h2 c
          · simp only [if_neg (show ¬ j = i by omega)]
            exact hS0 j (by omega) c
        · have hnl : ∀ s, N[i]? ≠ some (Row.leaf s) := fun s e => hlf ⟨s, by rw [er] at e; exact Option.some.inj e⟩
          have htag : ¬ V.str r.tag = V.str "leaf" := fun z => by
            have z : r.tag = "leaf" := by injection z
            have z := tag_leaf.mp z
            cases r with
            | leaf s => exact hlf ⟨s, rfl⟩
            | fork ks => cases z
            | join k => cases z
          refine ⟨_, rfl, _, rfl, a, xs, (i : Int), _, rfl, rfl, dS.news.same _ _ ha, atI_nat hx, b, _, 0, _, rfl, rfl, dS.news.same _ _ hb, atI_nat (j := 0) rfl, rfl, _, rfl, iteN htag ?_⟩
          refine ⟨_, rfl, _, rfl, a, xs, (i : Int), _, rfl, rfl, dS.news.same _ _ ha, atI_nat hx, _, r, rfl, hd1.up (Same.tk dS.news.same), fun H4 p S4 hp => ⟨p, rfl, ⟨_, sq_at hp⟩, ?_⟩⟩
          refine for_gen (n := r.kids.length) (fun j σ H5 => (∃ s3 s4 s5 s6, σ = [some (.ref a), some (.ref D), some (natV i), s3, s4, s5, s6]) ∧ H5 p = some (.tup (r.kids.map natV)) ∧ ∃ S, Dicts H H5 D ls (names N) S ∧ (∀ j, i < j → j < xs.length → ∀ b, Lst N j b (S j b)) ∧ (∀ j, j < i → ∀ b, S j b = none) ∧ ∀ b, LstK N (r.kids.take j) b (S i b))
            ⟨⟨_, _, _, _, rfl⟩, hp, S, dS.up S4, fun j h1 h2 => hS j (by omega) h2, fun j h1 => hS0 j (by omega), fun c => by rw [hS0 i (by omega) c]; exact lstK_nil⟩ (fun j σ H5 hj ⟨_, hp5, _⟩ => go_tup hp5 (by rw [nats_len]; exact hj)) (fun σ H5 ⟨_, hp5, _⟩ => st_tup hp5 (by rw [nats_len]; exact Nat.le_refl _)) (fun j σ H5 z H6 hj ⟨⟨s3, s4, s5, s6, es⟩, hp5, S5, d5, hS5, hS50, hK5⟩ hy => ?_) fun σ H5 ⟨⟨s3, s4, s5, s6, es⟩, hp5, S5, d5, hS5, hS50, hK5⟩ => ⟨⟨_, _, _, _, _, es⟩, S5, d5, fun j h1 h2 c => ?_, fun j h1 c => hS50 j (by omega) c⟩
          · subst es
            obtain ⟨rfl, hz⟩ := hy
            have hz := hz _ (sq_at hp5)
            rw [nats_at hj] at hz
            cases hz
            have hkm : r.kids[j] ∈ kidsAt N i := by rw [ek]; exact List.getElem_mem hj
            have hlt := G.lt i _ hkm
            have hdn := G.down i _ hkm
            have hrj : r.kids[j]? = some r.kids[j] := List.getElem?_eq_getElem hj
            generalize r.kids[j] = kd at hkm hlt hdn hrj
            obtain ⟨dk, hdk⟩ : ∃ dk, ls[kd]? = some dk := ⟨_, List.getElem?_eq_getElem (by omega)⟩
            have hatk : (ls.map V.ref)[kd]? = some (.ref dk) := by rw [List.getElem?_map, hdk]; rfl
            obtain ⟨kvs, e1, e2, e3, e4⟩ := d5.at_ kd dk hdk
            have ndk : dk ≠ dd := fun z => by
              subst z
              have := (List.getElem?_inj (List.getElem?_eq_some_iff.mp hdk).1 d5.news.nd).mp (hdk.trans hdd.symm)
              omega
            have nkD : dk ≠ D := (d5.news.free dk (List.mem_of_getElem? hdk)).2
            refine ⟨dk, _, e1, trivial, fun od => ?_⟩
            refine ⟨_, rfl, _, rfl, D, _, (kd : Int), _, rfl, rfl, by rw [upd_ne (Ne.symm nkD)]; exact d5.news.at_, atI_nat hatk, dk, od, kvs, rfl, upd_same, ?_⟩
            refine for_gen (n := kvs.length) (fun e σ H7 => (∃ s4 s5, σ = [some (.ref a), some (.ref D), some (natV i), some (natV kd), s4, s5, s6]) ∧ ∃ G7, H7 = upd G7 dk (.frz od (.dK kvs)) ∧ G7 dk = some (.dK kvs) ∧ G7 p = some (.tup (r.kids.map natV)) ∧ ∃ S7, Dicts H G7 D ls (names N) S7 ∧ (∀ j, j ≠ i → S7 j = S5 j) ∧ ∀ c, S7 i c = mixF (S5 i) (S5 kd) ((kvs.take e).map (·.1)) c)
              ⟨⟨_, _, rfl⟩, _, rfl, e1, hp5, S5, d5, fun _ _ => rfl, fun c => ?_⟩ (fun e σ H7 he ⟨_, G7, eG, _⟩ => ⟨by rw [eG, upd_same], he⟩) (fun σ H7 ⟨_, G7, eG, _⟩ => ⟨by rw [eG, upd_same], Nat.le_refl _⟩) (fun e σ H7 x H8 he ⟨⟨s4', s5', es⟩, G7, eG, g1, g2, S7, d7, hS7, hm7⟩ hy => ?_) fun σ H7 ⟨⟨s4', s5', es⟩, G7, eG, g1, g2, S7, d7, hS7, hm7⟩ => ?_
            · simp [mixF]
            · subst es
              obtain ⟨t8, k, v, hkv, rfl, hT, rfl⟩ := hy
              subst eG
              have kvm : (k, v) ∈ kvs := List.mem_of_getElem? hkv
              obtain ⟨nm, hnm, rfl⟩ := e3 k (List.mem_map.mpr ⟨_, kvm, rfl⟩)
              have hval := L2.val_nodup e2 _ kvm
              have hval : valV kvs (.inr nm) = some v := hval
              rw [e4] at hval
              obtain ⟨m, hm, rfl⟩ := Option.map_eq_some_iff.mp hval
              have nT : t8 ≠ dk := fun z => by rw [z, upd_same] at hT; cases hT
              have gT : G7 t8 = none := by rw [upd_ne nT] at hT; exact hT
              rw [upd_cm (Ne.symm nT)]
              have S8 : Same G7 (upd G7 t8 (.tup [kV (.inr nm), natV m])) := same_upd gT
              have d8 := d7.up S8
              have t8at : upd G7 t8 (.tup [kV (.inr nm), natV m]) t8 = some (.tup [kV (.inr nm), natV m]) := upd_same
              have g81 := S8 _ _ g1
              have g82 := S8 _ _ g2
              generalize upd G7 t8 (.tup [kV (.inr nm), natV m]) = G8 at S8 d8 t8at g81 g82 ⊢
              have nbk : ∀ c, (∀ x, G8 c ≠ some (.dK x)) → c ≠ dk := fun c h z => by subst z; exact h _ g81
              refine ⟨t8, _, rfl, by rw [upd_ne nT]; exact t8at, rfl, _, _, rfl, _, _, rfl, rfl, ?_⟩
              have hD8 : upd G8 dk (.frz od (.dK kvs)) D = some (.lst (ls.map V.ref)) := by rw [upd_ne (Ne.symm nkD)]; exact d8.news.at_
              obtain ⟨kv2, f1, f2, f3, f4⟩ := d8.at_ i dd hdd
              have hdd8 : upd G8 dk (.frz od (.dK kvs)) dd = some (.dK kv2) := by rw [upd_ne (Ne.symm ndk)]; exact f1
              have hnotin : (Sum.inr nm : Key) ∉ (kvs.take e).map (·.1) := fun z => by
                have nd2 := List.pairwise_iff_getElem.mp e2
                rw [List.map_take] at z
                obtain ⟨i', hi', e'⟩ := List.mem_take_iff_getElem.mp z
                have hlen' : e < (kvs.map (·.1)).length := by rw [List.length_map]; exact he
                refine nd2 i' e (by omega) hlen' (by omega) ?_
                rw [e', List.getElem_map]
                have := List.getElem?_eq_some_iff.mp hkv
                obtain ⟨_, q⟩ := this
                rw [q]
              have hF : S7 i nm = S5 i nm := by
                rw [hm7]
                unfold mixF
                rw [if_neg hnotin]
              obtain ⟨mm, hmm, hmin⟩ : ∃ mm : Nat, mm = (match S5 i nm with | some n => min n (m + 1) | none => m + 1) ∧ ∀ jj : Int, (valV kv2 (.inr nm)).getD (.int ((m : Int) + 1)) = .int jj → (if jj < (m : Int) + 1 then jj else (m : Int) + 1) = (mm : Int) := by
                cases q : S5 i nm with
                | none =>
                  refine ⟨m + 1, rfl, fun jj hj => ?_⟩
                  rw [f4, hF, q] at hj
                  have hj : V.int ((m : Int) + 1) = .int jj := hj
                  injection hj with hj
                  subst hj
                  rw [if_neg (by omega)]
                  rfl
                | some n =>
                  refine ⟨min n (m + 1), rfl, fun jj hj => ?_⟩
                  rw [f4, hF, q] at hj
                  have hj : V.int (n : Int) = .int jj := hj
                  injection hj with hj
                  subst hj
                  split <;> omega
              obtain ⟨jj, hjj⟩ : ∃ jj : Int, (valV kv2 (.inr nm)).getD (.int ((m : Int) + 1)) = .int jj := by
                rw [f4]
                cases S7 i nm with
                | none => exact ⟨_, rfl⟩
                | some n => exact ⟨_, rfl⟩
              refine ⟨_, rfl, (m : Int), 1, rfl, rfl, _, rfl, _, rfl, D, _, (i : Int), _, rfl, rfl, hD8, atI_nat hat, dd, rfl, .inl ⟨_, .inl hdd8⟩, _, rfl, _, rfl, (m : Int), 1, rfl, rfl, _, DGet.k (k := .inr nm) hdd8, ?_⟩
              rw [hjj]
              refine ⟨(m : Int) + 1, jj, rfl, ?_⟩
              rw [hmin jj hjj]
              have hkl := keys_len f2 f3
              refine ⟨_, rfl, _, rfl, D, _, (i : Int), _, rfl, rfl, hD8, atI_nat hat, _, rfl, dd, _, rfl, DPut.k (k := .inr nm) hdd8 (smallT (by omega)), ⟨_, _, rfl⟩, _, upd_cm ndk, ?_, ?_, _, d8.put hdd (show DictF (upd G8 dd (.dK (putK kv2 (.inr nm) (V.int mm)))) dd (names N) (fun b => if b = nm then some mm else S7 i b) from dictF_put f2 f3 f4 hnm), fun j hj => ?_, fun c => ?_⟩
              · rw [upd_ne ndk]
                exact g81
              · rw [upd_ne (fun z => by rw [z, f1] at g82; cases g82)]
                exact g82
              · show (if j = i then _ else S7 j) = _
                rw [if_neg hj]
                exact hS7 j hj
              · show (if i = i then (fun b => if b = nm then some mm else S7 i b) else S7 i) c = _
                rw [if_pos rfl]
                have ek2 : (kvs.take (e + 1)).map (·.1) = (kvs.take e).map (·.1) ++ [Sum.inr nm] := by
                  rw [List.take_add_one, hkv, List.map_append]
                  rfl
                rw [ek2, mixF_new hnotin hm, hmm]
                show (if c = nm then _ else _) = _
                by_cases hc : c = nm
                · rw [if_pos hc, if_pos hc]
                · rw [if_neg hc, if_neg hc]
                  exact hm7 c
            · subst es eG
              refine ⟨upd_same, ?_⟩
              rw [upd_upd, upd_id g1]
              refine ⟨⟨_, _, _, _, rfl⟩, g2, S7, d7, fun j h1 h2 c => by rw [hS7 j (by omega)]; exact hS5 j h1 h2 c, fun j h1 c => by rw [hS7 j (by omega)]; exact hS50 j h1 c, fun c => ?_⟩
              rw [hm7 c, List.take_length, mixF_all e4, List.take_add_one, hrj]
              exact lstK_snoc (hK5 c) (hS5 kd hdn (by omega) c)
          · rw [List.take_length, ← ek] at hK5
            by_cases hj : j = i
            · subst hj
              exact lst_inner hnl (hK5 c)
            · exact hS5 j (by omega) h2 c
      · subst es
        exact ⟨_, rfl, q _ D ls S dS (by omega) (fun i hi b => hS i (by omega) (by omega) b) hD⟩
end
end JT
/-! D2: pairs_of, distances. -/
namespace JT
open PySem PySem.Spec PyProof.Rows L2 PySem.W
abbrev s_pairs_of : Stmt := topS 36
abbrev n_pairs_of : List Str := ["names", "k", "a", "b"]
theorem sc_pairs_of : FnScope n_pairs_of ["names"] (defScope s_pairs_of) :=
  ⟨rfl, rfl, rfl, by decide +kernel, rfl, by decide +kernel, by decide +kernel⟩
abbrev s_distances : Stmt := topS 37
abbrev n_distances : List Str := ["net", "steps", "found", "a", "b", "some"]
theorem sc_distances : FnScope n_distances ["net"] (defScope s_distances) :=
  ⟨rfl, rfl, rfl, by decide +kernel, rfl, by decide +kernel, by decide +kernel⟩
section
variable {P : Program} {w : World} {K : PySem.W.Frag} {mg : Str → Option Value} {base : Heap}
def spPairs : Sp := fun vs H Q _ => ∃ a ys, vs = [.ref a] ∧ H a = some (.tup (ys.map V.str)) ∧ ys.length ≤ 90 ∧ ∀ H' l xs, Same H H' → H' l = some (.lst xs) → DTs H' xs ((pairs ys).map encP) → Q (.ref l) H'
theorem strs_at {ys : List Str} {i : Nat} (h : i < ys.length) : (ys.map V.str)[i]? = some (.str (ys.getD i "")) := by
  rw [List.getElem?_map, List.getElem?_eq_getElem h, List.getD_eq_getElem?_getD, List.getElem?_eq_getElem h]
  rfl
theorem c_pairs_of (T : Top mg) (D : Def K mg "pairs_of" "pairs_of" s_pairs_of) : Cal P w K mg base 1 "pairs_of" spPairs := by
  refine D.cal sc_pairs_of (fun _ _ _ _ _ _ us hl => match us, hl with | [_], _ => rfl) (fun vs H Q E h => ?_) fun f cdv A outer s H vs Q E hr hsp => ?_
  · obtain ⟨_, _, rfl, _⟩ := h; rfl
  refine ⟨_, (pss_one (ps_ret (pe_lc2 (own := [("k", 1), ("a", 2), ("b", 3)]) (tt := tYes) (vs1 := [3]) (g1 := gName 3) (tt1 := tYes) rfl sc_pairs_of.nd (pi_enumT rfl T.enumerate (pa_cons (pv 0) pa_nil)) (blkOk_by (own := [("k", 1), ("a", 2), ("b", 3)]) (N := n_pairs_of) (sc := defScope s_pairs_of) (by decide +kernel)) (by decide) (fun _ _ _ _ _ => (pgt (n := 2) rfl (pgs_cons (pg_name (i := 1) sc_pairs_of.nd rfl (Or.inl rfl)) (pgs_cons (pg_name (i := 2) sc_pairs_of.nd rfl (Or.inl rfl)) pgs_nil)))) (fun _ _ _ _ _ => pts_nil) (fun _ _ _ _ _ => (pi_tupK K (pe_slice slt (pv 0) (po_some (pe_op op_add (pv 1) pe_int)) po_none))) (fun _ _ _ _ _ => (pg_name (i := 3) sc_pairs_of.nd rfl (Or.inl rfl))) (fun _ _ _ _ _ => pts_nil) (fun _ _ _ _ _ => (pe_tup (pa_cons (pv 2) (pa_cons (pv 3) pa_nil))))))), ?_⟩
  obtain ⟨a, ys, rfl, ha, hl, q⟩ := hsp
  have hll : (ys.map V.str).length = ys.length := List.length_map _
  refine ⟨_, rfl, a, _, rfl, sq_at ha, fun D hD => ?_⟩
  refine lc2_gen (n := ys.length) (fun i H1 => Same H H1 ∧ ∃ xs, H1 D = some (.lst xs) ∧ DTs H1 xs ((pairsTo ys i).map encP)) ⟨same_upd hD, [], upd_same, .nil⟩ (fun i H1 hi ⟨hS, _⟩ => ⟨_, _, sq_at (hS _ _ ha), strs_at hi⟩) (fun H1 ⟨hS, _⟩ => ⟨_, sq_at (hS _ _ ha), by rw [hll]; exact Nat.le_refl _⟩) (fun i H1 x H2 hi ⟨hS, xs, hx, hxs⟩ hy => ?_) fun H1 ⟨hS, xs, hx, hxs⟩ => q _ _ _ hS hx hxs
  obtain ⟨t, y, rfl, ht, rfl, hy⟩ := hy
  have hy := hy _ (sq_at (hS _ _ ha))
  rw [strs_at hi] at hy
  cases hy
  have S2 : Same H1 (upd H1 t (.tup [.int (i : Nat), .str (ys.getD i "")])) := same_upd ht
  refine ⟨t, _, rfl, upd_same, rfl, _, _, rfl, _, _, rfl, rfl, rfl, ?_⟩
  refine ⟨_, rfl, _, rfl, (i : Int), 1, rfl, rfl, _, rfl, a, _, rfl, S2 _ _ (hS _ _ ha), fun p H3 S3 hp => ?_⟩
  have hp' : H3 p = some (.tup ((ys.drop (i + 1)).map V.str)) := by
    rw [show (i : Int) + 1 = ((i + 1 : Nat) : Int) by omega, cut_from] at hp
    rw [hp, List.map_drop]
  refine ⟨p, rfl, ⟨_, sq_at hp'⟩, ?_⟩
  have hdl : ((ys.drop (i + 1)).map V.str).length = (ys.drop (i + 1)).length := List.length_map _
  have plen := pairsTo_len ys i
  have pmul : i * ys.length ≤ 90 * 90 := Nat.mul_le_mul (by omega) hl
  have dlen : (ys.drop (i + 1)).length ≤ 90 := by rw [List.length_drop]; omega
  refine lc2_in (n := (ys.drop (i + 1)).length) (fun j H4 => Same H H4 ∧ H4 p = some (.tup ((ys.drop (i + 1)).map V.str)) ∧ ∃ xs, H4 D = some (.lst xs) ∧ DTs H4 xs ((pairsTo ys i ++ (pairsRow ys i).take j).map encP))
    ⟨Same.trans' hS (Same.trans' S2 S3), hp', xs, S3 _ _ (S2 _ _ hx), by simpa using hxs.up (Same.tk (Same.trans' S2 S3))⟩ (fun j H4 hj ⟨_, hp4, _⟩ => go_tup hp4 (by rw [hdl]; exact hj)) (fun H4 ⟨_, hp4, _⟩ => st_tup hp4 (by rw [hdl]; exact Nat.le_refl _)) (fun j H4 z H5 hj ⟨S4, hp4, xs4, hx4, hxs4⟩ hz => ?_) fun H4 ⟨S4, hp4, xs4, hx4, hxs4⟩ => ⟨S4, xs4, hx4, ?_⟩
  · obtain ⟨rfl, hz⟩ := hz
    have hz := hz _ (sq_at hp4)
    rw [List.getElem?_map, List.getElem?_eq_getElem hj] at hz
    cases hz
    refine ⟨rfl, _, rfl, _, rfl, small (show 2 ≤ 10000 by decide), fun r hr => ⟨xs4, ?_, ?_, ?_, ?_, _, upd_same, ?_⟩⟩
    · rw [upd_ne (ne_of_none hx4 hr)]
      exact hx4
    · rw [hxs4.length, List.length_map, List.length_append, List.length_take]
      exact smallT (by omega)
    · intro b o e
      rw [upd_ne (ne_of_none e hD), upd_ne (ne_of_none (S4 _ _ e) hr)]
      exact S4 _ _ e
    · rw [upd_ne (fun z => by rw [z, hx4] at hp4; cases hp4), upd_ne (ne_of_none hp4 hr)]
      exact hp4
    · have ep : (pairsRow ys i)[j]? = some (ys.getD i "", (ys.drop (i + 1))[j]) := by
        unfold pairsRow
        rw [List.getElem?_map, List.getElem?_eq_getElem hj]
        rfl
      rw [List.take_add_one, ep, ← List.append_assoc, List.map_append]
      have rD : r ≠ D := fun z => by rw [z, hx4] at hr; cases hr
      refine DTs.snoc (hxs4.up (TK.trans (tk_new hr) (tk_set (by rw [upd_ne (Ne.symm rD)]; exact hx4) no_lst))) (.tup (by rw [upd_ne rD, upd_same]) (.cons (.str _) (.cons (.str _) .nil)))
  · rw [pairsTo_succ]
    have : (pairsRow ys i).take (ys.drop (i + 1)).length = pairsRow ys i := List.take_of_length_le (by unfold pairsRow; rw [List.length_map]; exact Nat.le_refl _)
    rw [this] at hxs4
    exact hxs4
/-- at p a dict of the pairs of names that tells F -/
def DistD (H : Hp) (p : Addr) (nm : List Str) (F : Str → Str → Nat → Prop) : Prop := ∃ kvs : List (List Key × V), H p = some (.dT kvs) ∧ (kvs.map (·.1)).Nodup ∧
  (∀ k v, (k, v) ∈ kvs → ∃ a b m, k = [.inr a, .inr b] ∧ a ∈ nm ∧ b ∈ nm ∧ sLt a b ∧ v = natV m ∧ F a b m) ∧ ∀ a b, a ∈ nm → b ∈ nm → sLt a b → ∃ m, ([Sum.inr a, Sum.inr b], natV m) ∈ kvs
def spDist : Sp := fun vs H Q _ => ∃ v N, vs = [v] ∧ DT H v (encN N) ∧ Good N ∧ ∀ H' p, Same H H' → H p = none → DistD H' p (names N) (IsDist N) → Q (.ref p) H'
theorem c_distances (T : Top mg) (D : Def K mg "distances" "distances" s_distances) (C_steps_down : Cal P w K mg base 2 "steps_down" spSteps) (C_names_of : Cal P w K mg base 1 "names_of" spNames) (C_pairs_of : Cal P w K mg base 1 "pairs_of" spPairs) : Cal P w K mg base 3 "distances" spDist := by
  have C_names_of := C_names_of.mono (show 1 ≤ 2 by decide)
  have C_pairs_of := C_pairs_of.mono (show 1 ≤ 2 by decide)
  refine D.cal sc_distances (fun _ _ _ _ _ _ us hl => match us, hl with | [_], _ => rfl) (fun vs H Q E h => ?_) fun f cdv A outer s H vs Q E hr hsp => ?_
  · obtain ⟨_, _, rfl, _⟩ := h; rfl
  have hu := hu_of hr
  refine ⟨_, (pss_cons (ps_set (i := 1) sc_distances.nd rfl (Or.inl rfl) (pe_f C_steps_down hr rfl (pa_cons (pv 0) pa_nil)))
    (pss_cons (ps_set (i := 2) sc_distances.nd rfl (Or.inl rfl) pe_dnewT)
    (pss_cons (ps_for PassesOwn.never rfl (pi_listK K (pe_f C_pairs_of hr rfl (pa_cons (pe_f C_names_of hr rfl (pa_cons (pv 0) pa_nil)) pa_nil))) (pgt (n := 2) rfl (pgs_cons (pg_name (i := 3) sc_distances.nd rfl (Or.inr rfl)) (pgs_cons (pg_name (i := 4) sc_distances.nd rfl (Or.inr rfl)) pgs_nil)))
    (pss_one (ps_dput hu (pv 2) (pe_tup (pa_cons (pv 3) (pa_cons (pv 4) pa_nil))) (pe_callB (minq rfl) rfl T.min (by decide +kernel) (pa_cons (pe_lc (own := [("some", 5)]) (g := gName 5) rfl sc_distances.nd (pi_listK K (pv 1)) (blkOk_by (own := [("some", 5)]) (N := n_distances) (sc := defScope s_distances) (by decide +kernel)) (fun _ _ _ _ _ => (pg_name (i := 5) sc_distances.nd rfl (Or.inl rfl))) (fun _ _ _ _ _ => (pts_one (PW.pt (pw_and (pt_cmp (pc_din hu (pv 3) (pv 5))) (pw_and1 (pt_cmp (pc_din hu (pv 4) (pv 5)))))))) (fun _ _ _ _ _ => (pe_op op_add (pe_dget hu (pv 5) (pv 3) (fun _ _ => rfl)) (pe_dget hu (pv 5) (pv 4) (fun _ _ => rfl))))) pa_nil)) rfl)))
    (pss_one (ps_ret (pv 2)))))), ?_⟩
  obtain ⟨v, N, rfl, hd, G, q⟩ := hsp
  have h49 := G.len
  have hnm := nnames_len N
  refine ⟨_, rfl, v, N, rfl, hd, G, fun H1 sp ds S dS hdl hS sp0 => ?_⟩
  have S1 := dS.news.same
  refine fun fd hfd => ?_
  have dlist := dS.news.at_
  have SF : Same H1 (upd H1 fd (.dT [])) := same_upd hfd
  have hfd2 : upd H1 fd (.dT []) fd = some (.dT []) := upd_same
  generalize upd H1 fd (.dT []) = H2 at SF hfd2 ⊢
  have S2 : Same H H2 := Same.trans' S1 SF
  refine ⟨_, rfl, _, N, rfl, hd.up (Same.tk S2), by omega, G.nd, fun H3 p ys S3 hp pm so => ⟨p, ys, rfl, hp, by rw [pm.length_eq]; omega, fun H4 l xs S4 hl hxs => ⟨l, rfl, ⟨_, sl_at hl⟩, ?_⟩⟩⟩
  have hlen : xs.length = (pairs ys).length := by rw [hxs.length, List.length_map]
  have pnd := pairs_nodup (nodup_of_sLt so)
  have plen : (pairs ys).length ≤ 49 * 49 := by
    have z := pairsTo_len ys ys.length
    have e : ys.length ≤ 49 := by rw [pm.length_eq]; omega
    exact Nat.le_trans z (Nat.mul_le_mul e e)
  have S24 : Same H2 H4 := Same.trans' S3 S4
  have hfd4 := S24 _ _ hfd2
  have keyD : ∀ i d, ds[i]? = some d → d ≠ fd := fun i d e z => by
    obtain ⟨kvs, e1, _⟩ := dS.at_ i d e
    rw [z, hfd] at e1
    cases e1
  let key : Str × Str → List Key := fun ab => [.inr ab.1, .inr ab.2]
  have keyinj : ∀ x y, key x = key y → x = y := fun x y e => by
    have e : ([.inr x.1, .inr x.2] : List Key) = [.inr y.1, .inr y.2] := e
    injection e with e1 e2
    injection e2 with e2 _
    injection e1 with e1
    injection e2 with e2
    exact Prod.ext e1 e2
  refine for_gen (n := xs.length) (fun i σ H5 => (∃ s3 s4 s5, σ = [some v, some (.ref sp), some (.ref fd), s3, s4, s5]) ∧ (∀ b o, b ≠ fd → H4 b = some o → H5 b = some o) ∧ ∃ kvs : List (List Key × V), H5 fd = some (.dT kvs) ∧ kvs.map (·.1) = ((pairs ys).take i).map key ∧ ∀ k u, (k, u) ∈ kvs → ∃ a b m, k = [.inr a, .inr b] ∧ a ∈ names N ∧ b ∈ names N ∧ sLt a b ∧ u = natV m ∧ IsDist N a b m)
    ⟨⟨_, _, _, rfl⟩, fun _ _ _ h => h, [], hfd4, by simp, by simp⟩ (fun i σ H5 hi ⟨_, hB, kvs, hk, _⟩ => go_lst (hB _ _ (fun z => by rw [z, hfd4] at hl; cases hl) hl) hi) (fun σ H5 ⟨_, hB, kvs, hk, _⟩ => st_lst (hB _ _ (fun z => by rw [z, hfd4] at hl; cases hl) hl) (Nat.le_refl _)) (fun i σ H5 x H6 hi ⟨⟨s3, s4, s5, es⟩, hB, kvs, hk, hkeys, hvals⟩ hy => ?_) fun σ H5 ⟨⟨s3, s4, s5, es⟩, hB, kvs, hk, hkeys, hvals⟩ => ?_
  · subst es
    obtain ⟨rfl, hx⟩ := hy
    have nl : l ≠ fd := fun z => by rw [z, hfd4] at hl; cases hl
    have hx := hx _ (sl_at (hB _ _ nl hl))
    obtain ⟨d, ed, hdx⟩ := hxs.get hx
    rw [List.getElem?_map] at ed
    obtain ⟨⟨a, b⟩, eab, rfl⟩ := Option.map_eq_some_iff.mp ed
    have hab := (mem_pairs so).mp (List.mem_of_getElem? eab)
    have han : a ∈ names N := pm.mem_iff.mp hab.1
    have hbn : b ∈ names N := pm.mem_iff.mp hab.2.1
    obtain ⟨t, zs, rfl, ht, hzs⟩ := DT.of_tup (show DT H4 x (.tuple [.str a, .str b]) from hdx)
    have ezs : zs = [.str a, .str b] := by
      cases hzs with
      | cons h1 t =>
        cases t with
        | cons h2 t =>
          cases t
          rw [h1.of_str, h2.of_str]
    subst ezs
    have ht5 := hB _ _ (fun z => by rw [z, hfd4] at ht; cases ht) ht
    refine ⟨t, _, rfl, ht5, rfl, _, _, rfl, _, _, rfl, rfl, ?_⟩
    have old : ∀ c o, H1 c = some o → H6 c = some o := fun c o e => hB c o (fun z => by rw [z, hfd] at e; cases e) (S24 _ _ (SF _ _ e))
    refine ⟨_, rfl, sp, rfl, ⟨_, sl_at (old _ _ dlist)⟩, fun D2 hD2 => ?_⟩
    refine lc_map (n := N.length) (fun i => (S i a).isSome && (S i b).isSome) (fun i => .int (((S i a).getD 0 + (S i b).getD 0 : Nat) : Int)) hD2 (by omega) (fun j H7 hj hS7 => go_lst (hS7 _ _ (old _ _ dlist)) (by rw [List.length_map]; omega)) (fun H7 hS7 => st_lst (hS7 _ _ (old _ _ dlist)) (by rw [List.length_map]; omega)) (fun j H7 y H8 Kt Kf hj hS7 hy hKt hKf => ?_) fun H7 hS7 hl7 => ?_
    · obtain ⟨rfl, hy⟩ := hy
      have hy := hy _ (sl_at (hS7 _ _ (old _ _ dlist)))
      obtain ⟨dj, hdj⟩ : ∃ dj, ds[j]? = some dj := ⟨_, List.getElem?_eq_getElem (by omega)⟩
      rw [List.getElem?_map, hdj] at hy
      cases hy
      obtain ⟨kvj, e1, e2, e3, e4⟩ := dS.at_ j dj hdj
      have e1' := hS7 _ _ (old _ _ e1)
      have da : DGet H8 dj (kV (.inr a)) ((S j a).map natV) := by
        have z := DGet.k (k := .inr a) e1'
        rw [e4] at z
        exact z
      have db : DGet H8 dj (kV (.inr b)) ((S j b).map natV) := by
        have z := DGet.k (k := .inr b) e1'
        rw [e4] at z
        exact z
      refine ⟨rfl, _, rfl, _, rfl, dj, _, rfl, da, _, rfl, ?_⟩
      cases qa : S j a with
      | none =>
        refine iteF ?_
        rw [qa] at hKf
        exact hKf rfl _ (Same.refl' _)
      | some ma =>
        refine iteT ⟨_, rfl, _, rfl, dj, _, rfl, db, _, rfl, ?_⟩
        cases qb : S j b with
        | none =>
          refine iteF ?_
          rw [qa, qb] at hKf
          exact hKf rfl _ (Same.refl' _)
        | some mb =>
          rw [qa] at da
          rw [qb] at db
          rw [qa, qb] at hKt
          have hKt := hKt rfl _ (Same.refl' _)
          refine iteT ⟨_, rfl, _, rfl, dj, _, rfl, da, _, rfl, _, rfl, dj, _, rfl, db, (ma : Int), (mb : Int), rfl, rfl, ?_⟩
          have e : ((((some ma).getD 0 + (some mb).getD 0 : Nat)) : Int) = (ma : Int) + (mb : Int) := by simp
          rw [e] at hKt
          exact hKt
    · have ens : kept (fun i => (S i a).isSome && (S i b).isSome) (fun i => V.int (((S i a).getD 0 + (S i b).getD 0 : Nat) : Int)) N.length = (((List.range N.length).filter fun i => (S i a).isSome && (S i b).isSome).map fun i => (((S i a).getD 0 + (S i b).getD 0 : Nat) : Int)).map V.int := by
        unfold kept
        rw [List.map_map]
        rfl
      rw [ens] at hl7
      have h0 : 0 ∈ (List.range N.length).filter fun i => (S i a).isSome && (S i b).isSome := by
        refine List.mem_filter.mpr ⟨List.mem_range.mpr G.pos, ?_⟩
        have ra := G.rl han
        have rb := G.rl hbn
        have la := hS 0 G.pos a
        have lb := hS 0 G.pos b
        cases qa : S 0 a with
        | none => rw [qa] at la; obtain ⟨m, r⟩ := ra; exact absurd r (la m)
        | some ma =>
          cases qb : S 0 b with
          | none => rw [qb] at lb; obtain ⟨m, r⟩ := rb; exact absurd r (lb m)
          | some mb => rfl
      refine ⟨D2, _, rfl, hl7, by rw [List.length_map]; exact List.length_pos_of_mem h0, fun m hm hmin => ?_⟩
      obtain ⟨i0, hi0, em⟩ := List.mem_map.mp hm
      obtain ⟨hi0r, hi0p⟩ := List.mem_filter.mp hi0
      have hi0r := List.mem_range.mp hi0r
      have isd : IsDist N a b ((S i0 a).getD 0 + (S i0 b).getD 0) := by
        have la := hS i0 hi0r a
        have lb := hS i0 hi0r b
        refine ⟨?_, fun r x y hx hy => ?_⟩
        · cases qa : S i0 a with
          | none => rw [qa] at hi0p; cases hi0p
          | some ma =>
            cases qb : S i0 b with
            | none => rw [qa, qb] at hi0p; cases hi0p
            | some mb =>
              rw [qa] at la
              rw [qb] at lb
              exact ⟨i0, ma, mb, la.1, lb.1, rfl⟩
        · obtain ⟨jx, hjx, dx⟩ := hx
          have hr : r < N.length := by
            cases dx with
            | refl => exact (List.getElem?_eq_some_iff.mp hjx).1
            | step q _ => exact kidsAt_lt q
          have lra := hS r hr a
          have lrb := hS r hr b
          have hx : Rl N r a x := ⟨jx, hjx, dx⟩
          cases qa : S r a with
          | none => rw [qa] at lra; exact absurd hx (lra x)
          | some ma =>
            cases qb : S r b with
            | none => rw [qb] at lrb; exact absurd hy (lrb y)
            | some mb =>
              rw [qa] at lra
              rw [qb] at lrb
              have h1 := lra.2 x hx
              have h2 := lrb.2 y hy
              have h3 := hmin ((((S r a).getD 0 + (S r b).getD 0 : Nat)) : Int) (List.mem_map.mpr ⟨r, List.mem_filter.mpr ⟨List.mem_range.mpr hr, by rw [qa, qb]; rfl⟩, rfl⟩)
              rw [← em, qa, qb] at h3
              have h4 : (some ma).getD 0 + (some mb).getD 0 = ma + mb := rfl
              rw [h4] at h3
              omega
      generalize hM : (S i0 a).getD 0 + (S i0 b).getD 0 = M at isd em
      subst em
      refine ⟨_, rfl, _, rfl, _, rfl, small (show 2 ≤ 10000 by decide), fun r hr => ?_⟩
      have hk7 := hS7 _ _ hk
      have rfd : r ≠ fd := fun z => by rw [z, hk7] at hr; cases hr
      have hk8 : upd H7 r (.tup [.str a, .str b]) fd = some (.dT kvs) := by rw [upd_ne (Ne.symm rfd)]; exact hk7
      have klen : kvs.length = i := by
        have z := congrArg List.length hkeys
        rw [List.length_map, List.length_map, List.length_take] at z
        omega
      refine ⟨fd, _, rfl, DPut.t (k := [.inr a, .inr b]) hk8 upd_same (smallT (by omega)), ⟨_, _, _, rfl⟩, fun c o hc e => ?_, _, upd_same, ?_, ?_⟩
      · rw [upd_ne hc, upd_ne (fun z => by
          have z2 := hS7 _ _ (hB c o hc e)
          rw [z, hr] at z2
          cases z2)]
        exact hS7 _ _ (hB c o hc e)
      · have hnone : valV kvs [.inr a, .inr b] = none := by
          cases e : valV kvs [.inr a, .inr b] with
          | none => rfl
          | some u =>
            have z := L2.valV_in e
            rw [hkeys] at z
            obtain ⟨⟨a', b'⟩, hm', e'⟩ := List.mem_map.mp z
            have e'' := keyinj (a', b') (a, b) e'
            rw [e''] at hm'
            obtain ⟨i', hi', ei'⟩ := List.mem_take_iff_getElem.mp hm'
            have z2 := List.pairwise_iff_getElem.mp pnd i' i (by omega) (by omega) (by omega)
            rw [ei'] at z2
            have := List.getElem?_eq_some_iff.mp eab
            obtain ⟨_, q2⟩ := this
            exact absurd q2.symm z2
        rw [putK_new _ hnone, List.map_append, hkeys, List.take_add_one, eab, List.map_append]
        rfl
      · intro k u hku
        have hnone : valV kvs [.inr a, .inr b] = none := by
          cases e : valV kvs [.inr a, .inr b] with
          | none => rfl
          | some u =>
            have z := L2.valV_in e
            rw [hkeys] at z
            obtain ⟨⟨a', b'⟩, hm', e'⟩ := List.mem_map.mp z
            have e'' := keyinj (a', b') (a, b) e'
            rw [e''] at hm'
            obtain ⟨i', hi', ei'⟩ := List.mem_take_iff_getElem.mp hm'
            have z2 := List.pairwise_iff_getElem.mp pnd i' i (by omega) (by omega) (by omega)
            rw [ei'] at z2
            have := List.getElem?_eq_some_iff.mp eab
            obtain ⟨_, q2⟩ := this
            exact absurd q2.symm z2
        rw [putK_new _ hnone] at hku
        rcases List.mem_append.mp hku with h | h
        · exact hvals k u h
        · rw [List.mem_singleton] at h
          injection h with h1 h2
          exact ⟨a, b, M, h1, han, hbn, hab.2.2, h2, isd⟩
  · subst es
    rw [hlen, List.take_length] at hkeys
    refine ⟨_, rfl, q _ fd (fun b o e => ?_) ?_ ⟨kvs, hk, ?_, hvals, fun a b ha hb hab => ?_⟩⟩
    · exact hB b o (fun z => by rw [z] at e; rw [S1 _ _ e] at hfd; cases hfd) (S24 _ _ (S2 _ _ e))
    · cases e : H fd with
      | none => rfl
      | some o => rw [S1 _ _ e] at hfd; cases hfd
    · rw [hkeys]
      exact List.pairwise_map.mpr (pnd.imp fun {x y} n e => n (keyinj _ _ e))
    · have hm : (a, b) ∈ pairs ys := (mem_pairs so).mpr ⟨pm.mem_iff.mpr ha, pm.mem_iff.mpr hb, hab⟩
      have hk2 : key (a, b) ∈ kvs.map (·.1) := by
        rw [hkeys]
        exact List.mem_map_of_mem hm
      obtain ⟨⟨k, u⟩, hku, ek⟩ := List.mem_map.mp hk2
      obtain ⟨a', b', m, _, _, _, _, eu, _⟩ := hvals k u hku
      refine ⟨m, ?_⟩
      have ek : k = [.inr a, .inr b] := ek
      rw [← ek, ← eu]
      exact hku
end
end JT
/-! Mat4: dicts of the rows' numbers; taking rows whose parents are all taken. -/
namespace JT
open PySem PySem.Spec PyProof.Rows L2 PySem.W
def nk (i : Nat) : Key := .inl (i : Int)
theorem nk_inj {i j : Nat} (h : nk i = nk j) : i = j := by
  injection h with h
  exact Int.ofNat.inj h
/-- a dict with the keys 0 .. n - 1 -/
def numD (f : Nat → V) (n : Nat) : List (Key × V) := (List.range n).map fun i => (nk i, f i)
theorem numD_len (f : Nat → V) (n : Nat) : (numD f n).length = n := by simp [numD]
theorem numD_succ (f : Nat → V) (n : Nat) : numD f (n + 1) = numD f n ++ [(nk n, f n)] := by
  unfold numD
  rw [List.range_succ, List.map_append]
  rfl
theorem numD_keys (f : Nat → V) (n : Nat) : (numD f n).map (·.1) = (List.range n).map nk := by
  unfold numD
  rw [List.map_map]
  rfl
theorem numD_nodup (f : Nat → V) (n : Nat) : ((numD f n).map (·.1)).Nodup := by
  rw [numD_keys]
  exact List.pairwise_map.mpr (List.nodup_range.imp fun {a b} q e => q (nk_inj e))
theorem numD_get (f : Nat → V) {n i : Nat} (h : i < n) : (numD f n)[i]? = some (nk i, f i) := by
  unfold numD
  rw [List.getElem?_map, List.getElem?_range h]
  rfl
theorem numD_val (f : Nat → V) {n i : Nat} (h : i < n) : valV (numD f n) (nk i) = some (f i) :=
  L2.val_nodup (numD_nodup f n) (nk i, f i) (List.mem_of_getElem? (numD_get f h))
theorem numD_none (f : Nat → V) {n i : Nat} (h : n ≤ i) : valV (numD f n) (nk i) = none := by
  cases e : valV (numD f n) (nk i) with
  | none => rfl
  | some v =>
    have z := L2.valV_in e
    rw [numD_keys] at z
    obtain ⟨j, hj, e⟩ := List.mem_map.mp z
    have := nk_inj e
    have := List.mem_range.mp hj
    omega
theorem numD_new (f : Nat → V) (n : Nat) : putK (numD f n) (nk n) (f n) = numD f (n + 1) := by
  rw [putK_new _ (numD_none f (Nat.le_refl n)), numD_succ]
theorem numD_put (f : Nat → V) {n k : Nat} (v : V) (h : k < n) : putK (numD f n) (nk k) v = numD (fun j => if j = k then v else f j) n := by
  unfold putK
  rw [valV_any, numD_val f h]
  show (if true = true then _ else _) = _
  rw [if_pos rfl]
  unfold numD
  rw [List.map_map]
  apply List.map_congr_left
  intro i hi
  show (if nk i = nk k then (nk i, v) else (nk i, f i)) = (nk i, if i = k then v else f i)
  by_cases e : i = k
  · subst e
    rw [if_pos rfl, if_pos rfl]
  · rw [if_neg (fun z => e (nk_inj z)), if_neg e]
theorem numD_congr {f g : Nat → V} {n : Nat} (h : ∀ i, i < n → f i = g i) : numD f n = numD g n := by
  unfold numD
  apply List.map_congr_left
  intro i hi
  rw [h i (List.mem_range.mp hi)]
/-! ### the parents not yet taken -/
theorem count_le_one {l : List Nat} (h : l.Nodup) (x : Nat) : (l.filter fun i => i == x).length ≤ 1 := by
  induction l with
  | nil => exact Nat.zero_le _
  | cons a l ih =>
    obtain ⟨h1, h2⟩ := List.nodup_cons.mp h
    rw [List.filter_cons]
    split
    · rename_i e
      have e : a = x := by simpa using e
      subst e
      have : (l.filter fun i => i == a) = [] := List.filter_eq_nil_iff.mpr fun i hi z => by
        have : i = a := by simpa using z
        subst this
        exact h1 hi
      rw [this]
      exact Nat.le_refl _
    · exact ih h2
theorem Loose.kids_nodup {N : Net} (G : Loose N) (i : Nat) : (kidsAt N i).Nodup := by
  cases h : N[i]? with
  | none => rw [kidsAt_none (List.getElem?_eq_none_iff.mp h)]; exact List.nodup_nil
  | some r =>
    have ek := kidsAt_some h
    rw [ek]
    cases r with
    | leaf s => exact List.nodup_nil
    | fork ks => exact (G.two i ks h).2
    | join k => simp [Row.kids]
theorem waysOf_row (i k : Nat) : ∀ {ks : List Nat}, ks.Nodup → waysOf (ks.map fun k => (i, k)) k = if k ∈ ks then [i] else []
  | [], _ => rfl
  | a :: ks, h => by
    obtain ⟨h1, h2⟩ := List.nodup_cons.mp h
    have ih := waysOf_row i k h2
    unfold waysOf at ih ⊢
    rw [List.map_cons, List.filter_cons]
    by_cases e : a = k
    · subst e
      rw [if_neg h1] at ih
      simp [ih]
    · have e' : ¬ k = a := fun z => e z.symm
      simp only [beq_iff_eq, if_neg e, List.mem_cons, e', false_or]
      exact ih
theorem waysOf_append (es fs : List (Nat × Nat)) (k : Nat) : waysOf (es ++ fs) k = waysOf es k ++ waysOf fs k := by
  unfold waysOf
  rw [List.filter_append, List.map_append]
/-- the parents of k, rising -/
theorem ways_eq {N : Net} (h : ∀ i, (kidsAt N i).Nodup) (k : Nat) : ways N k = (List.range N.length).filter fun i => decide (k ∈ kidsAt N i) := by
  have main : ∀ n, waysOf (edgesTo N n) k = (List.range n).filter fun i => decide (k ∈ kidsAt N i) := by
    intro n
    induction n with
    | zero => rfl
    | succ n ih =>
      rw [edgesTo_succ, waysOf_append, ih, List.range_succ, List.filter_append, waysOf_row n k (h n)]
      by_cases e : k ∈ kidsAt N n <;> simp [e]
  exact main _
theorem Loose.ways_nodup {N : Net} (G : Loose N) (k : Nat) : (ways N k).Nodup := by
  rw [ways_eq G.kids_nodup]
  exact List.Nodup.sublist List.filter_sublist List.nodup_range
/-- how many parents of k are not among S -/
def pend (N : Net) (S : List Nat) (k : Nat) : Nat := ((ways N k).filter fun i => decide (i ∉ S)).length
theorem pend_nil (N : Net) (k : Nat) : pend N [] k = (ways N k).length := by
  unfold pend
  rw [List.filter_eq_self.mpr (fun i _ => by simp)]
theorem filter_drop_one {l : List Nat} (hn : l.Nodup) (S : List Nat) {x : Nat} (hx : x ∉ S) : (l.filter fun i => decide (i ∉ S)).length = (l.filter fun i => decide (i ∉ S ++ [x])).length + if x ∈ l then 1 else 0 := by
  induction l with
  | nil => simp
  | cons a l ih =>
    obtain ⟨h1, h2⟩ := List.nodup_cons.mp hn
    have ih := ih h2
    by_cases e : a = x
    · subst e
      rw [if_neg h1] at ih
      rw [List.filter_cons, List.filter_cons, if_pos (by simpa using hx), if_neg (by simp), if_pos (by simp), List.length_cons, ih]
    · have e' : ¬ x = a := fun z => e z.symm
      have hm : (x ∈ a :: l) ↔ x ∈ l := by simp [e']
      have hc : (decide (a ∉ S ++ [x])) = decide (a ∉ S) := by simp [e]
      rw [List.filter_cons, List.filter_cons, hc]
      by_cases q : a ∉ S
      · rw [if_pos (decide_eq_true q), if_pos (decide_eq_true q), List.length_cons, List.length_cons, ih]
        by_cases r : x ∈ l
        · rw [if_pos r, if_pos (hm.mpr r)]
        · rw [if_neg r, if_neg (fun z => r (hm.mp z))]
      · rw [if_neg (by simpa using q), if_neg (by simpa using q), ih]
        by_cases r : x ∈ l
        · rw [if_pos r, if_pos (hm.mpr r)]
        · rw [if_neg r, if_neg (fun z => r (hm.mp z))]
theorem Loose.pend_snoc {N : Net} (G : Loose N) {S : List Nat} {x : Nat} (hx : x ∉ S) (k : Nat) : pend N S k = pend N (S ++ [x]) k + if k ∈ kidsAt N x then 1 else 0 := by
  unfold pend
  rw [filter_drop_one (G.ways_nodup k) S hx]
  congr 1
  by_cases e : k ∈ kidsAt N x
  · rw [if_pos e, if_pos (mem_ways.mpr e)]
  · rw [if_neg e, if_neg (fun z => e (mem_ways.mp z))]
theorem pend_zero {N : Net} {S : List Nat} {k : Nat} (h : ∀ i, k ∈ kidsAt N i → i ∈ S) : pend N S k = 0 := by
  unfold pend
  rw [List.filter_eq_nil_iff.mpr fun i hi z => by
    have := h i (mem_ways.mp hi)
    simp [this] at z]
  rfl
/-- S taken, F free to be taken -/
structure Taken (N : Net) (S F : List Nat) : Prop where
  nd : (S ++ F).Nodup
  lt : ∀ k ∈ S ++ F, k < N.length
  zero : ∀ k, k < N.length → (pend N S k = 0 ↔ k ∈ S ++ F)
/-- nothing free: all taken -/
theorem Taken.all {N : Net} {S : List Nat} (G : Loose N) (t : Taken N S []) : ∀ k, k < N.length → k ∈ S := by
  obtain ⟨ρ, hρ⟩ := G.rank
  have main : ∀ n k, ρ k < n → k < N.length → k ∈ S := by
    intro n
    induction n with
    | zero => intro k h; exact absurd h (Nat.not_lt_zero _)
    | succ n ih =>
      intro k h hk
      have z := (t.zero k hk).mp (pend_zero fun i hi => ih i (by have := hρ i k hi; omega) (kidsAt_lt hi))
      simpa using z
  exact fun k hk => main (ρ k + 1) k (Nat.lt_succ_self _) hk
theorem Taken.len {N : Net} {S F : List Nat} (t : Taken N S F) : S.length + F.length ≤ N.length := by
  have z := nodup_le (m := List.range N.length) t.nd fun k hk => List.mem_range.mpr (t.lt k hk)
  rw [List.length_range, List.length_append] at z
  exact z
theorem Taken.full {N : Net} {S : List Nat} (G : Loose N) (t : Taken N S []) : S.length = N.length := by
  have h1 := t.len
  have z := nodup_le (m := S) (List.nodup_range (n := N.length)) fun k hk => t.all G k (List.mem_range.mp hk)
  rw [List.length_range] at z
  simp at h1
  omega
theorem Taken.start {N : Net} (G : Loose N) : Taken N [] [0] := by
  refine ⟨by simp, fun k hk => ?_, fun k hk => ?_⟩
  · have : k = 0 := by simpa using hk
    subst this
    exact G.pos
  · rw [pend_nil, G.led k hk]
    by_cases h : k = 0
    · subst h
      simp [dueWays]
    · have := due_pos (N := N) (show 0 < k by omega)
      simp [h]
      omega
/-- .. while the kids of x are counted down: the first j of them are -/
structure Taking (N : Net) (S F : List Nat) (x : Nat) (done : List Nat) (w : Nat → Nat) : Prop where
  nx : x ∉ S
  nd : ((S ++ [x]) ++ F).Nodup
  lt : ∀ k ∈ (S ++ [x]) ++ F, k < N.length
  cnt : ∀ k, k < N.length → w k = pend N (S ++ [x]) k + if k ∈ kidsAt N x ∧ k ∉ done then 1 else 0
  zero : ∀ k, k < N.length → (w k = 0 ↔ k ∈ (S ++ [x]) ++ F)
theorem Taken.take {N : Net} {S F : List Nat} {x : Nat} (G : Loose N) (t : Taken N S (F ++ [x])) : Taking N S F x [] (pend N S) := by
  have hnd : ((S ++ [x]) ++ F).Nodup := by
    have z := t.nd
    rw [List.append_assoc]
    refine (List.Perm.nodup_iff ?_).mp z
    exact List.Perm.append_left S (List.perm_append_comm)
  have hx : x ∉ S := by
    rw [List.append_assoc, List.nodup_append] at hnd
    obtain ⟨_, _, h⟩ := hnd
    exact fun z => h x z x (by simp) rfl
  have hm : ∀ k, k ∈ (S ++ [x]) ++ F ↔ k ∈ S ++ (F ++ [x]) := fun k => by
    simp only [List.mem_append, List.mem_singleton]
    constructor
    · rintro ((h | h) | h)
      · exact .inl h
      · exact .inr (.inr h)
      · exact .inr (.inl h)
    · rintro (h | h | h)
      · exact .inl (.inl h)
      · exact .inr h
      · exact .inl (.inr h)
  refine ⟨hx, hnd, fun k hk => t.lt k ((hm k).mp hk), fun k hk => ?_, fun k hk => ?_⟩
  · rw [G.pend_snoc hx k]
    simp
  · rw [t.zero k hk]
    exact (hm k).symm
/-- one more kid counted down -/
theorem Taking.step {N : Net} {S F : List Nat} {x k : Nat} {done : List Nat} {w : Nat → Nat} (G : Loose N) (t : Taking N S F x done w) (hk : k ∈ kidsAt N x) (hd : k ∉ done) :
    1 ≤ w k ∧ Taking N S (if w k - 1 = 0 then F ++ [k] else F) x (done ++ [k]) (fun j => if j = k then w k - 1 else w j) := by
  have hkn := G.lt x k hk
  have hw := t.cnt k hkn
  rw [if_pos ⟨hk, hd⟩] at hw
  have hnot : k ∉ (S ++ [x]) ++ F := fun z => by
    have := (t.zero k hkn).mpr z
    omega
  refine ⟨by omega, t.nx, ?_, ?_, fun j hj => ?_, fun j hj => ?_⟩
  · split
    · rw [← List.append_assoc]
      rw [List.nodup_append]
      refine ⟨t.nd, by simp, fun a ha b hb e => ?_⟩
      rw [List.mem_singleton] at hb
      subst hb e
      exact hnot ha
    · exact t.nd
  · intro j hj
    split at hj
    · rw [← List.append_assoc] at hj
      rcases List.mem_append.mp hj with h | h
      · exact t.lt j h
      · rw [List.mem_singleton.mp h]
        exact hkn
    · exact t.lt j hj
  · show (if j = k then w k - 1 else w j) = _
    by_cases e : j = k
    · subst e
      rw [if_pos rfl, if_neg (by simp), hw]
      omega
    · rw [if_neg e, t.cnt j hj]
      congr 1
      have : (j ∉ done ++ [k]) ↔ j ∉ done := by simp [e]
      by_cases q : j ∈ kidsAt N x ∧ j ∉ done
      · rw [if_pos q, if_pos ⟨q.1, this.mpr q.2⟩]
      · rw [if_neg q, if_neg (fun z => q ⟨z.1, this.mp z.2⟩)]
  · show (if j = k then w k - 1 else w j) = 0 ↔ _
    by_cases e : j = k
    · subst e
      rw [if_pos rfl]
      by_cases q : w j - 1 = 0
      · rw [if_pos q]
        exact ⟨fun _ => by simp, fun _ => q⟩
      · rw [if_neg q]
        exact ⟨fun z => absurd z q, fun z => absurd z hnot⟩
    · rw [if_neg e, t.zero j hj]
      by_cases q : w k - 1 = 0
      · rw [if_pos q]
        simp [e]
      · rw [if_neg q]
/-- all kids counted down -/
theorem Taking.done {N : Net} {S F : List Nat} {x : Nat} {done : List Nat} {w : Nat → Nat} (t : Taking N S F x done w) (h : ∀ k ∈ kidsAt N x, k ∈ done) : Taken N (S ++ [x]) F ∧ ∀ k, k < N.length → w k = pend N (S ++ [x]) k := by
  have hw : ∀ k, k < N.length → w k = pend N (S ++ [x]) k := fun k hk => by
    rw [t.cnt k hk, if_neg (fun z => z.2 (h k z.1))]
    rfl
  exact ⟨⟨t.nd, t.lt, fun k hk => by rw [← hw k hk]; exact t.zero k hk⟩, hw⟩
end JT
/-! R1: is_loose_row, ways_up. -/
namespace JT
open PySem PySem.Spec PyProof.Rows L2 PySem.W
abbrev s_is_loose_row : Stmt := topS 39
abbrev n_is_loose_row : List Str := ["thing", "many", "kid"]
theorem sc_is_loose_row : FnScope n_is_loose_row ["thing", "many"] (defScope s_is_loose_row) :=
  ⟨rfl, rfl, rfl, by decide +kernel, rfl, by decide +kernel, by decide +kernel⟩
abbrev s_ways_up : Stmt := topS 40
abbrev n_ways_up : List Str := ["kids", "found", "some", "kid", "at"]
theorem sc_ways_up : FnScope n_ways_up ["kids"] (defScope s_ways_up) :=
  ⟨rfl, rfl, rfl, by decide +kernel, rfl, by decide +kernel, by decide +kernel⟩
section
variable {P : Program} {w : World} {K : PySem.W.Frag} {mg : Str → Option Value} {base : Heap}
def LRowOk (n : Nat) : Row → Prop
  | .leaf s => NameOk s
  | .fork ks => ks.length ≤ 1000 ∧ ∀ k ∈ ks, k < n
  | .join k => k < n
def spLooseRow : Sp := fun vs H Q _ => ∃ v r, ∃ n : Nat, vs = [v, .int n] ∧ DT H v (encR r) ∧ LRowOk n r ∧ ∀ H', Same H H' → Q (.bl true) H'
theorem c_is_loose_row (T : Top mg) (D : Def K mg "is_loose_row" "is_loose_row" s_is_loose_row) (C_is_pair : Cal P w K mg base 1 "is_pair" spIsPair) (C_is_number : Cal P w K mg base 1 "is_number" spIsNumber) (C_is_leaf : Cal P w K mg base 2 "is_leaf" spIsLeaf) : Cal P w K mg base 3 "is_loose_row" spLooseRow := by
  have C_is_pair := C_is_pair.mono (show 1 ≤ 2 by decide)
  have C_is_number := C_is_number.mono (show 1 ≤ 2 by decide)
  refine D.cal sc_is_loose_row (fun _ _ _ _ _ _ us hl => match us, hl with | [_, _], _ => rfl) (fun vs H Q E h => ?_) fun f cdv A outer s H vs Q E hr hsp => ?_
  · obtain ⟨_, _, _, rfl, _⟩ := h; rfl
  refine ⟨_, (pss_cons (ps_if (pt_val (pe_f C_is_pair hr rfl (pa_cons (pv 0) (pa_cons pe_str pa_nil)))) (pss_one (ps_ret (pe_f C_is_number hr rfl (pa_cons (pe_ix ixt (pv 0) pe_int (fun _ _ => rfl)) (pa_cons pe_int (pa_cons (pv 1) pa_nil)))))) pss_nil)
    (pss_cons (ps_if (pt_val (pe_f C_is_pair hr rfl (pa_cons (pv 0) (pa_cons pe_str pa_nil)))) (pss_one (ps_ret (pe_and (pe_isi (T := "tuple") rfl T.isinstance rfl T.tuple (by decide +kernel) (pe_ix ixt (pv 0) pe_int (fun _ _ => rfl))) (pe_one (pe_callB (allq rfl) rfl T.all (by decide +kernel) (pa_cons (pe_lc (own := [("kid", 2)]) (g := gName 2) (tt := tYes) rfl sc_is_loose_row.nd (pi_tupK K (pe_ix ixt (pv 0) pe_int (fun _ _ => rfl))) (blkOk_by (own := [("kid", 2)]) (N := n_is_loose_row) (sc := defScope s_is_loose_row) (by decide +kernel)) (fun _ _ _ _ _ => (pg_name (i := 2) sc_is_loose_row.nd rfl (Or.inl rfl))) (fun _ _ _ _ _ => pts_nil) (fun _ _ _ _ _ => (pe_f C_is_number hr rfl (pa_cons (pv 2) (pa_cons pe_int (pa_cons (pv 1) pa_nil)))))) pa_nil)))))) pss_nil)
    (pss_one (ps_ret (pe_f C_is_leaf hr rfl (pa_cons (pv 0) pa_nil)))))), ?_⟩
  obtain ⟨v, r, n, rfl, hd, hok, q⟩ := hsp
  obtain ⟨a, y, ev, ha, hy⟩ := row_at hd
  refine ⟨_, rfl, v, r, "join", rfl, hd, _, rfl, ?_⟩
  cases r with
  | leaf z =>
    refine iteN (by simp [Row.tag]; decide) ⟨_, rfl, v, _, "fork", rfl, hd, _, rfl, iteN (by simp [Row.tag]; decide) ?_⟩
    exact ⟨_, rfl, v, _, rfl, hd, (fun s e => by cases e; exact hok), q⟩
  | fork ks =>
    refine iteN (by simp [Row.tag]; decide) ⟨_, rfl, v, _, "fork", rfl, hd, _, rfl, iteP rfl ?_⟩
    obtain ⟨b, rfl, hb⟩ := fork_at hy
    refine ⟨_, rfl, a, _, 1, _, ev, rfl, ha, atI_nat (j := 1) rfl, _, _, .tup hb, k_tt, _, rfl, iteT ?_⟩
    refine ⟨_, rfl, a, _, 1, _, ev, rfl, ha, atI_nat (j := 1) rfl, b, rfl, ⟨_, sq_at hb⟩, fun Dd hD => ?_⟩
    refine lc_map (n := ks.length) (fun _ => true) (fun _ => .bl true) hD (Nat.le_trans hok.1 (by decide)) (fun j H1 hj hS => go_tup (hS _ _ hb) (by rw [nats_len]; exact hj)) (fun H1 hS => st_tup (hS _ _ hb) (by rw [nats_len]; exact Nat.le_refl _)) (fun j H1 x H2 Kt Kf hj hS hy hKt hKf => ?_) fun H1 hS hl1 => ⟨_, _, rfl, hl1, q _ hS⟩
    obtain ⟨rfl, hx⟩ := hy
    have hx := hx _ (sq_at (hS _ _ hb))
    rw [nats_at hj] at hx
    cases hx
    have z := hok.2 ks[j] (List.getElem_mem hj)
    exact ⟨rfl, _, rfl, _, rfl, (ks[j] : Int), 0, (n : Int), rfl, by omega, by omega, hKt rfl _ (Same.refl' _)⟩
  | join k =>
    refine iteP rfl ?_
    rw [show y = natV k from DT.of_int hy] at ha
    have hok : k < n := hok
    exact ⟨_, rfl, a, _, 1, _, ev, rfl, ha, atI_nat (j := 1) rfl, _, rfl, (k : Int), 0, (n : Int), rfl, by omega, by omega, q _ (Same.refl' _)⟩
/-- at d the dict of the rows' kids, each list at ls -/
def KidsD (H : Hp) (d : Addr) (N : Net) (ls : List Addr) : Prop := ls.length = N.length ∧ H d = some (.dK (numD (fun i => .ref (ls.getD i 0)) N.length)) ∧ ∀ i l, ls[i]? = some l → H l = some (.lst ((kidsAt N i).map natV))
theorem KidsD.up {H H' : Hp} {d : Addr} {N : Net} {ls : List Addr} (h : KidsD H d N ls) (s : Same H H') : KidsD H' d N ls := ⟨h.1, s _ _ h.2.1, fun i l e => s _ _ (h.2.2 i l e)⟩
theorem KidsD.at {H : Hp} {d : Addr} {N : Net} {ls : List Addr} (h : KidsD H d N ls) {i : Nat} (hi : i < N.length) : ∃ l, ls[i]? = some l ∧ ls.getD i 0 = l ∧ H l = some (.lst ((kidsAt N i).map natV)) := by
  have e : ls[i]? = some (ls[i]'(by rw [h.1]; exact hi)) := List.getElem?_eq_getElem _
  refine ⟨_, e, ?_, h.2.2 i _ e⟩
  rw [List.getD_eq_getElem?_getD, e]
  rfl
def spWaysUp : Sp := fun vs H Q _ => ∃ d N ls, vs = [.ref d] ∧ KidsD H d N ls ∧ Loose N ∧ ∀ H' p, Same H H' → H p = none → H' p = some (.dK (numD (fun k => natV (ways N k).length) N.length)) → Q (.ref p) H'
theorem c_ways_up (T : Top mg) (D : Def K mg "ways_up" "ways_up" s_ways_up) : Cal P w K mg base 1 "ways_up" spWaysUp := by
  refine D.cal sc_ways_up (fun _ _ _ _ _ _ us hl => match us, hl with | [_], _ => rfl) (fun vs H Q E h => ?_) fun f cdv A outer s H vs Q E hr hsp => ?_
  · obtain ⟨_, _, _, rfl, _⟩ := h; rfl
  have hu := hu_of hr
  refine ⟨_, (pss_cons (ps_lock (ps_setDc (i := 1) (own := [("at", 4)]) (g := gName 4) (tt := tYes) rfl sc_ways_up.nd rfl rfl (sw_trueD rfl rfl rfl (by decide +kernel)) (pi_keys (pv 0)) (blkOk_by (own := [("at", 4)]) (N := n_ways_up) (sc := defScope s_ways_up) (by decide +kernel)) (fun _ _ _ _ _ => (pg_name (i := 4) sc_ways_up.nd rfl (Or.inl rfl))) (fun _ _ _ _ _ => pts_nil) (fun _ _ _ _ _ => (pv 4)) (fun _ _ _ _ _ => pe_int)))
    (pss_cons (ps_lock (ps_for PassesOwn.never rfl (pi_values (pv 0)) (pg_name (i := 2) sc_ways_up.nd rfl (Or.inl rfl))
    (pss_one (ps_for PassesOwn.never rfl (pi_listK K (pv 2)) (pg_name (i := 3) sc_ways_up.nd rfl (Or.inl rfl))
    (pss_one (ps_daug hu (pv 1) (pv 3) pe_int in_add (fun _ _ _ => rfl)))))))
    (pss_one (ps_ret (pv 1))))), ?_⟩
  obtain ⟨d, N, ls, rfl, hk, G, q⟩ := hsp
  have h49 := G.len
  obtain ⟨hll, hd, hls⟩ := id hk
  refine ⟨d, _, hd, trivial, fun od => ?_⟩
  refine ⟨_, rfl, d, od, rfl, .inl ⟨_, upd_same, fun p np => ?_⟩⟩
  have npd : p ≠ d := fun z => by rw [z, upd_same] at np; cases np
  have np' : H p = none := by rw [upd_ne npd] at np; exact np
  refine dc_gen (n := N.length) (fun i H1 => ∃ G1, H1 = upd G1 d (.frz od (.dK (numD (fun i => .ref (ls.getD i 0)) N.length))) ∧ Same H G1 ∧ G1 p = some (.dK (numD (fun _ => natV 0) i))) ⟨upd H p (.dK []), upd_cm (Ne.symm npd), same_upd np', upd_same⟩
    (fun i H1 hi ⟨G1, e, _⟩ => ⟨by rw [e, upd_same], by rw [numD_len]; exact hi⟩) (fun H1 ⟨G1, e, _⟩ => ⟨by rw [e, upd_same], by rw [numD_len]; exact Nat.le_refl _⟩) (fun i H1 x H2 hi ⟨G1, e, S1, hp⟩ hy => ?_) fun H1 ⟨G1, e, S1, hp⟩ => ?_
  · obtain ⟨rfl, k, v, hkv, rfl⟩ := hy
    rw [numD_get _ hi] at hkv
    cases hkv
    subst e
    refine ⟨rfl, _, rfl, _, nk i, rfl, by rw [upd_ne npd]; exact hp, by rw [numD_len]; exact smallT (by omega), upd G1 p (.dK (numD (fun _ => natV 0) (i + 1))), ?_, ?_, upd_same⟩
    · rw [show putK (numD (fun _ => natV 0) i) (nk i) (V.int 0) = _ from numD_new (fun _ => natV 0) i, upd_cm (Ne.symm npd)]
    · intro b o eb
      rw [upd_ne (ne_of_none eb np')]
      exact S1 _ _ eb
  · subst e
    refine ⟨upd_same, ?_⟩
    rw [upd_upd, upd_id (S1 _ _ hd)]
    have hd1 := S1 _ _ hd
    refine ⟨d, _, hd1, trivial, fun od2 => ?_⟩
    refine ⟨_, rfl, d, od2, _, rfl, upd_same, ?_⟩
    refine for_gen (n := N.length) (fun i σ H2 => (∃ s2 s3 s4, σ = [some (.ref d), some (.ref p), s2, s3, s4]) ∧ ∃ G2, H2 = upd G2 d (.frz od2 (.dK (numD (fun i => .ref (ls.getD i 0)) N.length))) ∧ Same H G2 ∧ G2 p = some (.dK (numD (fun k => natV (waysOf (edgesTo N i) k).length) N.length)))
      ⟨⟨_, _, _, rfl⟩, _, rfl, S1, hp⟩ (fun i σ H1 hi ⟨_, G1, e, _⟩ => ⟨by rw [e, upd_same], by rw [numD_len]; exact hi⟩) (fun σ H1 ⟨_, G1, e, _⟩ => ⟨by rw [e, upd_same], by rw [numD_len]; exact Nat.le_refl _⟩) (fun i σ H2 x H3 hi ⟨⟨s2, s3, s4, es⟩, G2, e, S2, hp2⟩ hy => ?_) fun σ H2 ⟨⟨s2, s3, s4, es⟩, G2, e, S2, hp2⟩ => ?_
    · subst es e
      obtain ⟨rfl, k, hkv⟩ := hy
      rw [numD_get _ hi] at hkv
      cases hkv
      obtain ⟨l, el, egl, hl⟩ := hk.at hi
      rw [egl]
      have nld : l ≠ d := fun z => by rw [z, hd] at hl; cases hl
      have nlp : l ≠ p := ne_of_none hl np'
      have hl2 : upd G2 d (.frz od2 (.dK (numD (fun i => .ref (ls.getD i 0)) N.length))) l = some (.lst ((kidsAt N i).map natV)) := by rw [upd_ne nld]; exact S2 _ _ hl
      have hlx : ∀ G4, Same H G4 → upd G4 d (.frz od2 (.dK (numD (fun i => .ref (ls.getD i 0)) N.length))) l = some (.lst ((kidsAt N i).map natV)) := fun G4 S4 => by rw [upd_ne nld]; exact S4 _ _ hl
      refine ⟨_, rfl, l, rfl, ⟨_, sl_at hl2⟩, ?_⟩
      refine for_gen (n := (kidsAt N i).length) (fun j σ H4 => (∃ s3 s4, σ = [some (.ref d), some (.ref p), some (.ref l), s3, s4]) ∧ ∃ G4, H4 = upd G4 d (.frz od2 (.dK (numD (fun i => .ref (ls.getD i 0)) N.length))) ∧ Same H G4 ∧ G4 p = some (.dK (numD (fun k => natV (waysOf (edgesTo N i ++ ((kidsAt N i).take j).map fun k => (i, k)) k).length) N.length)))
        ⟨⟨_, _, rfl⟩, _, rfl, S2, by simpa using hp2⟩ (fun j σ H4 hj ⟨_, G4, e, S4, _⟩ => go_lst (xs := (kidsAt N i).map natV) (by rw [e]; exact hlx G4 S4) (by rw [nats_len]; exact hj)) (fun σ H4 ⟨_, G4, e, S4, _⟩ => st_lst (xs := (kidsAt N i).map natV) (by rw [e]; exact hlx G4 S4) (by rw [nats_len]; exact Nat.le_refl _)) (fun j σ H4 x H5 hj ⟨⟨s3, s4, es⟩, G4, e, S4, hp4⟩ hy => ?_) fun σ H4 ⟨⟨s3, s4, es⟩, G4, e, S4, hp4⟩ => ⟨⟨_, _, _, es⟩, G4, e, S4, by rw [edgesTo_succ]; simpa using hp4⟩
      subst es e
      obtain ⟨rfl, hx⟩ := hy
      have hx := hx _ (sl_at (show upd G4 d (.frz od2 (.dK (numD (fun i => .ref (ls.getD i 0)) N.length))) l = _ by rw [upd_ne nld]; exact S4 _ _ hl))
      rw [nats_at hj] at hx
      cases hx
      have hkm : (kidsAt N i)[j] ∈ kidsAt N i := List.getElem_mem hj
      have hlt := G.lt i _ hkm
      have hkj : (kidsAt N i)[j]? = some (kidsAt N i)[j] := List.getElem?_eq_getElem hj
      generalize (kidsAt N i)[j] = kd at hkm hlt hkj
      have hp5 : upd G4 d (.frz od2 (.dK (numD (fun i => .ref (ls.getD i 0)) N.length))) p = some (.dK (numD (fun k => natV (waysOf (edgesTo N i ++ ((kidsAt N i).take j).map fun k => (i, k)) k).length) N.length)) := by rw [upd_ne npd]; exact hp4
      refine ⟨_, rfl, _, rfl, p, _, rfl, by
        have z := DGet.k (k := nk kd) hp5
        rw [numD_val _ hlt] at z
        exact z, _, _, rfl, rfl, _, DPut.k (k := nk kd) hp5 (by rw [numD_len]; exact smallT (by omega)), ⟨_, _, rfl⟩, upd G4 p (.dK (numD (fun k => natV (waysOf (edgesTo N i ++ ((kidsAt N i).take (j + 1)).map fun k => (i, k)) k).length) N.length)), ?_, ?_, upd_same⟩
      · rw [numD_put _ _ hlt, upd_cm (Ne.symm npd)]
        congr 3
        refine numD_congr fun m hm => ?_
        rw [List.take_add_one, hkj, List.map_append, ← List.append_assoc]
        show (if m = kd then _ else _) = natV (waysOf (_ ++ [(i, kd)]) m).length
        rw [waysOf_snoc]
        by_cases e : m = kd
        · subst e
          rw [if_pos rfl, if_pos rfl, List.length_append]
          unfold natV
          congr 1
        · rw [if_neg e, if_neg (fun z => e z.symm), List.append_nil]
      · intro b o eb
        rw [upd_ne (ne_of_none eb np')]
        exact S4 _ _ eb
    · subst es e
      refine ⟨upd_same, ?_⟩
      rw [upd_upd, upd_id (S2 _ _ hd)]
      exact ⟨_, rfl, q _ p S2 np' hp2⟩
end
end JT
/-! R2: goes_round. -/
namespace JT
open PySem PySem.Spec PyProof.Rows L2 PySem.W
abbrev s_goes_round : Stmt := topS 41
abbrev n_goes_round : List Str := ["kids", "ways", "free", "met", "kid", "at"]
theorem sc_goes_round : FnScope n_goes_round ["kids"] (defScope s_goes_round) :=
  ⟨rfl, rfl, rfl, by decide +kernel, rfl, by decide +kernel, by decide +kernel⟩
section
variable {P : Program} {w : World} {K : PySem.W.Frag} {mg : Str → Option Value} {base : Heap}
theorem nats_ints (l : List Nat) : l.map natD = (l.map fun (k : Nat) => (k : Int)).map PyData.int := by
  rw [List.map_map]
  rfl
theorem natsV_ints (l : List Nat) : l.map natV = (l.map fun (k : Nat) => (k : Int)).map V.int := by
  rw [List.map_map]
  rfl
theorem shaped_nats (l : List Nat) : SeqAt.shaped (.list (l.map natD)) = true := by
  rw [nats_ints]
  exact shaped_ints _
theorem dq_nats {H : Hp} {a : Addr} {l : List Nat} (h : H a = some (.lst (l.map natV))) : Dq H (.ref a) (.list (l.map natD)) := .inr ⟨a, _, _, rfl, h, DTs.nats l, rfl⟩
theorem dq_nil {H : Hp} {a : Addr} (h : H a = some (.lst [])) : Dq H (.ref a) (.list []) := .inr ⟨a, _, _, rfl, h, .nil, rfl⟩
theorem ne_nil_nats (l : List Nat) : (if true = true then !PyData.eqv (.list (l.map natD)) (.list []) else PyData.eqv (.list (l.map natD)) (.list [])) = !l.isEmpty := by cases l <;> rfl
def spGoes : Sp := fun vs H Q _ => ∃ d N ls, vs = [.ref d] ∧ KidsD H d N ls ∧ Loose N ∧ ∀ H', Same H H' → Q (.bl false) H'
/-- the counting down of a row's kids, its state -/
structure Cnt (H H1 : Hp) (N : Net) (p fl : Addr) (F : List Nat) (w : Nat → Nat) : Prop where
  same : Same H H1
  p0 : H p = none
  f0 : H fl = none
  ne : p ≠ fl
  ways : H1 p = some (.dK (numD (fun k => natV (w k)) N.length))
  free : H1 fl = some (.lst (F.map natV))
theorem Cnt.up {H H1 H2 : Hp} {N : Net} {p fl : Addr} {F : List Nat} {w : Nat → Nat} (h : Cnt H H1 N p fl F w) (s : Same H1 H2) : Cnt H H2 N p fl F w := ⟨Same.trans' h.same s, h.p0, h.f0, h.ne, s _ _ h.ways, s _ _ h.free⟩
theorem Cnt.putF {H H1 : Hp} {N : Net} {p fl : Addr} {F F' : List Nat} {w : Nat → Nat} (h : Cnt H H1 N p fl F w) : Cnt H (upd H1 fl (.lst (F'.map natV))) N p fl F' w :=
  ⟨fun b o e => by rw [upd_ne (ne_of_none e h.f0)]; exact h.same _ _ e, h.p0, h.f0, h.ne, by rw [upd_ne h.ne]; exact h.ways, upd_same⟩
theorem Cnt.putW {H H1 : Hp} {N : Net} {p fl : Addr} {F : List Nat} {w w' : Nat → Nat} (h : Cnt H H1 N p fl F w) : Cnt H (upd H1 p (.dK (numD (fun k => natV (w' k)) N.length))) N p fl F w' :=
  ⟨fun b o e => by rw [upd_ne (ne_of_none e h.p0)]; exact h.same _ _ e, h.p0, h.f0, h.ne, upd_same, by rw [upd_ne (Ne.symm h.ne)]; exact h.free⟩
theorem kept_zero {N : Net} (G : Loose N) : kept (fun k => decide ((ways N k).length = 0)) natV N.length = [natV 0] := by
  have main : ∀ n, n ≤ N.length → 1 ≤ n → kept (fun k => decide ((ways N k).length = 0)) natV n = [natV 0] := by
    intro n
    induction n with
    | zero => intro _ h; exact absurd h (by decide)
    | succ n ih =>
      intro hn _
      rw [kept_succ]
      by_cases h0 : n = 0
      · subst h0
        have : (ways N 0).length = 0 := by rw [G.led 0 G.pos]; rfl
        rw [if_pos (decide_eq_true this)]
        rfl
      · have h1 := G.led n (by omega)
        have h2 := due_pos (N := N) (show 0 < n by omega)
        rw [ih (by omega) (by omega), if_neg (fun z => by have := of_decide_eq_true z; omega)]
        rfl
  exact main _ (Nat.le_refl _) G.pos
theorem c_goes_round (T : Top mg) (D : Def K mg "goes_round" "goes_round" s_goes_round) (C_ways_up : Cal P w K mg base 1 "ways_up" spWaysUp) : Cal P w K mg base 2 "goes_round" spGoes := by
  refine D.cal sc_goes_round (fun _ _ _ _ _ _ us hl => match us, hl with | [_], _ => rfl) (fun vs H Q E h => ?_) fun f cdv A outer s H vs Q E hr hsp => ?_
  · obtain ⟨_, _, _, rfl, _⟩ := h; rfl
  have hu := hu_of hr
  have hu64 := hu64_of hr
  refine ⟨_, (pss_cons (ps_set (i := 1) sc_goes_round.nd rfl (Or.inr rfl) (pe_f C_ways_up hr rfl (pa_cons (pv 0) pa_nil)))
    (pss_cons (ps_lock (ps_setLc (i := 2) (own := [("at", 5)]) (g := gName 5) rfl sc_goes_round.nd rfl rfl (sw_true rfl rfl rfl (by decide +kernel)) (pi_keys (pv 0)) (blkOk_by (own := [("at", 5)]) (N := n_goes_round) (sc := defScope s_goes_round) (by decide +kernel)) (fun _ _ _ _ _ => (pg_name (i := 5) sc_goes_round.nd rfl (Or.inl rfl))) (fun _ _ _ _ _ => (pts_one (pt_cmpR op_eq (pe_dget hu (pv 1) (pv 5) (fun _ _ => rfl)) pe_int (nomark _)))) (fun _ _ _ _ _ => (pv 5))))
    (pss_cons (ps_set (i := 3) sc_goes_round.nd rfl (Or.inl rfl) pe_int)
    (pss_cons (ps_while PassesOwn.never (pt_cmpR (ned hu64) (pv 2) (pe_lst pa_nil) (nomark _)) (pss_cons (ps_aug (i := 3) sc_goes_round.nd rfl (Or.inl rfl) pe_int ip_add)
    (pss_one (ps_for PassesOwn.never rfl (pi_listK K (pe_dget hu (pv 0) (pe_ml0 PySem.F.slot_list_pop PySem.F.type_list_pop mt_pop (pv 2)) (fun _ _ => rfl))) (pg_name (i := 4) sc_goes_round.nd rfl (Or.inl rfl))
    (pss_cons (ps_daug hu (pv 1) (pv 4) pe_int in_sub (fun _ _ _ => rfl))
    (pss_one (ps_if (pt_cmpR op_eq (pe_dget hu (pv 1) (pv 4) (fun _ _ => rfl)) pe_int (nomark _)) (pss_one (ps_expr (pe_ml PySem.F.slot_list_append PySem.F.type_list_append mt_append (pv 2) (pa_cons (pv 4) pa_nil)))) pss_nil)))))))
    (pss_one (ps_ret (pe_cmpR op_lt (pv 3) (pe_callB call_lenD rfl T.len PySem.boot_len (pa_cons (pv 0) pa_nil)) (nomark _)))))))), ?_⟩
  obtain ⟨d, N, ls, rfl, hk, G, q⟩ := hsp
  have h49 := G.len
  refine ⟨_, rfl, d, N, ls, rfl, hk, G, fun H1 p S1 p0 hp => ?_⟩
  have hk1 := hk.up S1
  have hd1 := hk1.2.1
  refine ⟨d, _, hd1, trivial, fun od => ?_⟩
  have npd : p ≠ d := fun z => by rw [z, hk.2.1] at p0; cases p0
  have hpL : upd H1 d (.frz od (.dK (numD (fun i => .ref (ls.getD i 0)) N.length))) p = some (.dK (numD (fun k => natV (ways N k).length) N.length)) := by rw [upd_ne npd]; exact hp
  refine ⟨_, rfl, d, od, rfl, .inl ⟨_, upd_same, fun fl nf => ?_⟩⟩
  refine lc_map (n := N.length) (fun k => decide ((ways N k).length = 0)) natV nf (by omega) (fun i H2 hi hS => ⟨hS _ _ upd_same, by rw [numD_len]; exact hi⟩) (fun H2 hS => ⟨hS _ _ upd_same, by rw [numD_len]; exact Nat.le_refl _⟩) (fun i H2 x H3 Kt Kf hi hS hy hKt hKf => ?_) fun H2 hS hl => ?_
  · obtain ⟨rfl, k, v, hkv, rfl⟩ := hy
    rw [numD_get _ hi] at hkv
    cases hkv
    refine ⟨rfl, _, rfl, _, rfl, p, _, rfl, by
      have z := DGet.k (k := nk i) (hS _ _ hpL)
      rw [numD_val _ hi] at z
      exact z, rfl, _, rfl, ?_⟩
    have e : decide (natV (ways N i).length = V.int 0) = decide ((ways N i).length = 0) := by
      unfold natV
      simp
    rw [e]
    refine ite2 (fun h => ⟨_, rfl, hKt h _ (Same.refl' _)⟩) fun h => hKf (by simpa using h) _ (Same.refl' _)
  · rw [kept_zero G] at hl
    refine ⟨hS _ _ upd_same, ?_⟩
    have nfd : fl ≠ d := fun z => by rw [z, upd_same] at nf; cases nf
    have f1 : H1 fl = none := by rw [upd_ne nfd] at nf; exact nf
    have f0 : H fl = none := by
      cases e : H fl with
      | none => rfl
      | some o => rw [S1 _ _ e] at f1; cases f1
    have S2 : Same H1 (upd H2 d (.dK (numD (fun i => .ref (ls.getD i 0)) N.length))) := fun b o e => by
      by_cases hb : b = d
      · subst hb
        rw [upd_same, ← hd1, e]
      · rw [upd_ne hb]
        exact hS _ _ (by rw [upd_ne hb]; exact e)
    have c0 : Cnt H (upd H2 d (.dK (numD (fun i => .ref (ls.getD i 0)) N.length))) N p fl [0] (pend N []) := by
      refine ⟨Same.trans' S1 S2, p0, f0, (fun z => by rw [z, f1] at hp; cases hp), ?_, by rw [upd_ne nfd]; exact hl⟩
      rw [S2 _ _ hp]
      congr 2
      exact numD_congr fun i _ => by rw [pend_nil]
    generalize upd H2 d (.dK (numD (fun i => .ref (ls.getD i 0)) N.length)) = H3 at c0 ⊢
    refine ⟨fun m σ H4 => ∃ S F s4 s5, σ = [some (.ref d), some (.ref p), some (.ref fl), some (natV S.length), s4, s5] ∧ Taken N S F ∧ Cnt H H4 N p fl F (pend N S) ∧ m = N.length - S.length, ⟨_, [], [0], _, _, rfl, Taken.start G, c0, rfl⟩, ?_⟩
    rintro m σ H4 ⟨S, F, s4, s5, rfl, tk, c4, rfl⟩
    refine ⟨_, rfl, Nat.zero_le _, fun q1 hq1 => ⟨_, _, dq_nats ((same_upd hq1) _ _ c4.free), dq_nil upd_same, shaped_nats _, by decide, ?_⟩⟩
    have c5 : Cnt H (upd H4 q1 (.lst [])) N p fl F (pend N S) := c4.up (same_upd hq1)
    generalize upd H4 q1 (.lst []) = H5 at c5 ⊢
    rw [ne_nil_nats]
    refine ⟨_, rfl, ?_⟩
    rcases List.eq_nil_or_concat F with e | ⟨F0, x, e⟩
    · subst e
      refine iteF ?_
      refine ⟨_, rfl, _, rfl, d, _, rfl, c5.same _ _ hk.2.1, (S.length : Int), _, rfl, rfl, bl_false ?_ (q _ c5.same)⟩
      have := tk.full G
      rw [numD_len]
      exact decide_eq_false (by omega)
    · rw [List.concat_eq_append] at e
      subst e
      have hne : (F0 ++ [x]).isEmpty = false := by cases F0 <;> rfl
      rw [hne]
      refine iteT ?_
      have tg := tk.take G
      have hxn : x < N.length := tk.lt x (by simp)
      obtain ⟨l, el, egl, hl⟩ := hk.at hxn
      have c6 : Cnt H (upd H5 fl (.lst (F0.map natV))) N p fl F0 (pend N S) := c5.putF
      have slen := tk.len
      rw [List.length_append] at slen
      have slen : S.length + (F0.length + 1) ≤ N.length := slen
      refine ⟨_, fun σ' H' h => h, ?_⟩
      refine ⟨_, rfl, (S.length : Int), 1, rfl, rfl, ?_⟩
      have hfr : H5 fl = some (.lst (F0.map natV ++ [natV x])) := by
        have z := c5.free
        rw [List.map_append] at z
        exact z
      refine ⟨_, rfl, _, rfl, ⟨fl, _, rfl, hfr⟩, fl, _, natV x, rfl, rfl, hfr, by simp, ?_⟩
      rw [List.dropLast_concat]
      generalize upd H5 fl (.lst (F0.map natV)) = H6 at c6 ⊢
      have hd6 := c6.same _ _ hk.2.1
      have hl6 := c6.same _ _ hl
      refine ⟨d, _, rfl, by
        have z := DGet.k (k := nk x) hd6
        rw [numD_val _ hxn, egl] at z
        exact z, l, rfl, ⟨_, sl_at hl6⟩, ?_⟩
      refine for_gen (n := (kidsAt N x).length) (fun j σ H7 => (∃ s4 s5, σ = [some (.ref d), some (.ref p), some (.ref fl), some (natV (S.length + 1)), s4, s5]) ∧ ∃ F w, Taking N S F x ((kidsAt N x).take j) w ∧ Cnt H H7 N p fl F w)
        ⟨⟨_, _, rfl⟩, F0, _, tg, c6⟩ (fun j σ H7 hj ⟨_, F, w, _, c⟩ => go_lst (c.same _ _ hl) (by rw [nats_len]; exact hj)) (fun σ H7 ⟨_, F, w, _, c⟩ => st_lst (c.same _ _ hl) (by rw [nats_len]; exact Nat.le_refl _)) (fun j σ H7 y H8 hj ⟨⟨s4, s5, es⟩, F, w, tj, c7⟩ hy => ?_) fun σ H7 ⟨⟨s4, s5, es⟩, F, w, tj, c7⟩ => ?_
      · subst es
        obtain ⟨rfl, hy⟩ := hy
        have hy := hy _ (sl_at (c7.same _ _ hl))
        rw [nats_at hj] at hy
        cases hy
        have hkm : (kidsAt N x)[j] ∈ kidsAt N x := List.getElem_mem hj
        have hkj : (kidsAt N x)[j]? = some (kidsAt N x)[j] := List.getElem?_eq_getElem hj
        have hnd : (kidsAt N x)[j] ∉ (kidsAt N x).take j := fun z => by
          obtain ⟨i', hi', ei'⟩ := List.mem_take_iff_getElem.mp z
          have := (List.getElem_inj (G.kids_nodup x)).mp ei'
          omega
        generalize (kidsAt N x)[j] = kd at hkm hkj hnd
        have hlt := G.lt x kd hkm
        obtain ⟨w1, ts⟩ := tj.step G hkm hnd
        have c8 : Cnt H (upd H8 p (.dK (numD (fun k => natV (if k = kd then w kd - 1 else w k)) N.length))) N p fl F (fun k => if k = kd then w kd - 1 else w k) := c7.putW
        refine ⟨_, rfl, _, rfl, p, _, rfl, by
          have z := DGet.k (k := nk kd) c7.ways
          rw [numD_val _ hlt] at z
          exact z, (w kd : Int), 1, rfl, rfl, _, DPut.k (k := nk kd) c7.ways (by rw [numD_len]; exact smallT (by omega)), ?_⟩
        have ep : putK (numD (fun k => natV (w k)) N.length) (nk kd) (V.int ((w kd : Int) - 1)) = numD (fun k => natV (if k = kd then w kd - 1 else w k)) N.length := by
          rw [numD_put _ _ hlt]
          refine numD_congr fun i _ => ?_
          by_cases e : i = kd
          · rw [if_pos e, if_pos e]
            unfold natV
            congr 1
            omega
          · rw [if_neg e, if_neg e]
        rw [ep]
        generalize upd H8 p (.dK (numD (fun k => natV (if k = kd then w kd - 1 else w k)) N.length)) = H9 at c8 ⊢
        refine ⟨_, rfl, _, rfl, p, _, rfl, by
          have z := DGet.k (k := nk kd) c8.ways
          rw [numD_val _ hlt] at z
          exact z, rfl, _, rfl, ?_⟩
        have e0 : decide (natV (if kd = kd then w kd - 1 else w kd) = V.int 0) = decide (w kd - 1 = 0) := by
          rw [if_pos rfl]
          unfold natV
          have : (V.int ((w kd - 1 : Nat) : Int) = V.int 0) ↔ (w kd - 1 = 0) := ⟨fun z => by injection z with z; omega, fun z => by rw [z]; rfl⟩
          simp only [this]
        rw [e0]
        have etk : (kidsAt N x).take (j + 1) = (kidsAt N x).take j ++ [kd] := by
          rw [List.take_add_one, hkj]
          rfl
        have flen : F.length ≤ N.length := by
          have z := nodup_le (m := List.range N.length) tj.nd fun k hk => List.mem_range.mpr (tj.lt k hk)
          rw [List.length_range, List.length_append] at z
          omega
        refine ite2 (fun h => ?_) fun h => ?_
        · have h := of_decide_eq_true h
          rw [if_pos h] at ts
          refine ⟨_, rfl, ⟨fl, _, rfl, c8.free⟩, _, rfl, fl, _, natV kd, rfl, rfl, c8.free, by rw [nats_len]; exact smallT (by omega), ⟨_, _, rfl⟩, F ++ [kd], _, by rw [etk]; exact ts, ?_⟩
          have z := c8.putF (F' := F ++ [kd])
          rw [List.map_append] at z
          exact z
        · rw [if_neg (fun z => h (decide_eq_true z))] at ts
          exact ⟨⟨_, _, rfl⟩, F, _, by rw [etk]; exact ts, c8⟩
      · subst es
        rw [List.take_length] at tj
        obtain ⟨tk2, hw⟩ := tj.done fun k hk => hk
        refine ⟨N.length - (S ++ [x]).length, by rw [List.length_append]; simp; omega, S ++ [x], F, s4, s5, by simp, tk2, ⟨c7.same, c7.p0, c7.f0, c7.ne, ?_, c7.free⟩, rfl⟩
        rw [c7.ways]
        congr 2
        exact numD_congr fun i hi => by rw [hw i hi]
end
end JT
/-! R3: are_loose_rows. -/
namespace JT
open PySem PySem.Spec PyProof.Rows L2 PySem.W
abbrev s_are_loose_rows : Stmt := topS 42
abbrev n_are_loose_rows : List Str := ["thing", "kids", "ways", "twice", "row", "at"]
theorem sc_are_loose_rows : FnScope n_are_loose_rows ["thing"] (defScope s_are_loose_rows) :=
  ⟨rfl, rfl, rfl, by decide +kernel, rfl, by decide +kernel, by decide +kernel⟩
section
variable {P : Program} {w : World} {K : PySem.W.Frag} {mg : Str → Option Value} {base : Heap}
theorem canLay_nats : ∀ l : List Nat, PyData.canLayAll0 (l.map natD) = true
  | [] => rfl
  | k :: l => by
    show ((natD k).canLay0 && PyData.canLayAll0 (l.map natD)) = true
    rw [canLay_nats l]
    rfl
theorem depth_nats : ∀ l : List Nat, PyData.depthAll (l.map natD) = 0
  | [] => rfl
  | k :: l => by
    show max (natD k).depth (PyData.depthAll (l.map natD)) = 0
    rw [depth_nats l]
    rfl
theorem tag_lay (r : Row) : (PyData.str r.tag).canLay0 = true := by
  cases r with
  | leaf s => exact (by decide +kernel : (PyData.str "leaf").canLay0 = true)
  | fork ks => exact (by decide +kernel : (PyData.str "fork").canLay0 = true)
  | join k => exact (by decide +kernel : (PyData.str "join").canLay0 = true)
theorem what_lay {r : Row} (h : ∀ s, r = .leaf s → NameOk s) : (encWhat r).canLay0 = true := by
  cases r with
  | leaf s => exact canLay_name (h s rfl)
  | fork ks => exact canLay_nats ks
  | join k => rfl
theorem what_depth (r : Row) : (encWhat r).depth ≤ 1 := by
  cases r with
  | leaf s => exact Nat.zero_le _
  | fork ks =>
    show PyData.depthAll (ks.map natD) + 1 ≤ 1
    rw [depth_nats]
    exact Nat.le_refl _
  | join k => exact Nat.zero_le _
theorem row_lay {r : Row} (h : ∀ s, r = .leaf s → NameOk s) : (encR r).canLay0 = true := by
  show ((PyData.str r.tag).canLay0 && ((encWhat r).canLay0 && true)) = true
  rw [tag_lay, what_lay h]
  rfl
theorem row_depth (r : Row) : (encR r).depth ≤ 2 := by
  show max 0 (max (encWhat r).depth 0) + 1 ≤ 2
  have := what_depth r
  omega
theorem shaped_row {r : Row} (h : ∀ s, r = .leaf s → NameOk s) : SeqAt.shaped (encR r) = true := by
  have h2 := row_depth r
  unfold SeqAt.shaped
  rw [row_lay h]
  simp
  omega
theorem net_lay : ∀ {N : Net}, (∀ s, Row.leaf s ∈ N → NameOk s) → PyData.canLayAll0 (N.map encR) = true
  | [], _ => rfl
  | r :: N, h => by
    show ((encR r).canLay0 && PyData.canLayAll0 (N.map encR)) = true
    rw [row_lay (fun s e => h s (by rw [e]; simp)), net_lay (fun s hs => h s (by simp [hs]))]
    rfl
theorem net_depth : ∀ (N : Net), PyData.depthAll (N.map encR) ≤ 2
  | [] => Nat.zero_le _
  | r :: N => Nat.max_le.mpr ⟨row_depth r, net_depth N⟩
theorem Loose.leafOk {N : Net} (G : Loose N) : ∀ s, Row.leaf s ∈ N → NameOk s := fun s h => G.nameOk s (by
  obtain ⟨j, hj⟩ := List.getElem?_of_mem h
  exact mem_names.mpr ⟨j, hj⟩)
theorem shaped_net {N : Net} (G : Loose N) : SeqAt.shaped (encN N) = true := by
  have h2 := net_depth N
  show (PyData.canLayAll0 (N.map encR) && decide (PyData.depthAll (N.map encR) + 1 ≤ 64)) = true
  rw [net_lay G.leafOk]
  simp
  omega
theorem Loose.lrow {N : Net} (G : Loose N) {i : Nat} {r : Row} (h : N[i]? = some r) : LRowOk N.length r := by
  have ek := kidsAt_some h
  cases r with
  | leaf s => exact G.leafOk s (List.mem_of_getElem? h)
  | fork ks =>
    have z := G.kids_le i
    have ek : kidsAt N i = ks := ek
    rw [ek] at z
    exact ⟨by omega, fun k hk => G.lt i k (by rw [ek]; exact hk)⟩
  | join k => exact G.lt i k (by rw [ek]; simp [Row.kids])
/-- the dict of kids, the first i of them -/
structure KidsTo (H H1 : Hp) (D : Addr) (N : Net) (ls : List Addr) (i : Nat) : Prop where
  same : Same H H1
  len : ls.length = i
  at_ : H1 D = some (.dK (numD (fun j => .ref (ls.getD j 0)) i))
  ls : ∀ j l, ls[j]? = some l → H1 l = some (.lst ((kidsAt N j).map natV))
theorem KidsTo.up {H H1 H2 : Hp} {D : Addr} {N : Net} {ls : List Addr} {i : Nat} (h : KidsTo H H1 D N ls i) (s : Same H1 H2) : KidsTo H H2 D N ls i := ⟨Same.trans' h.same s, h.len, s _ _ h.at_, fun j l e => s _ _ (h.ls j l e)⟩
theorem KidsTo.add {H H1 : Hp} {D l : Addr} {N : Net} {ls : List Addr} {i : Nat} (h : KidsTo H H1 D N ls i) (hD : H D = none) (hl : H1 l = some (.lst ((kidsAt N i).map natV))) :
    KidsTo H (upd H1 D (.dK (putK (numD (fun j => .ref (ls.getD j 0)) i) (nk i) (.ref l)))) D N (ls ++ [l]) (i + 1) := by
  have nD : ∀ m xs, H1 m = some (.lst xs) → m ≠ D := fun m xs e z => by rw [z, h.at_] at e; cases e
  refine ⟨fun b o e => ?_, by rw [List.length_append, h.len]; rfl, ?_, fun j m e => ?_⟩
  · rw [upd_ne (ne_of_none e hD)]
    exact h.same _ _ e
  · rw [upd_same]
    congr 2
    have e1 : numD (fun j => V.ref (ls.getD j 0)) i = numD (fun j => V.ref ((ls ++ [l]).getD j 0)) i := numD_congr fun j hj => by
      rw [List.getD_eq_getElem?_getD, List.getD_eq_getElem?_getD, List.getElem?_append_left (by rw [h.len]; exact hj)]
    have e2 : (V.ref l) = (fun j => V.ref ((ls ++ [l]).getD j 0)) i := by
      show V.ref l = V.ref ((ls ++ [l]).getD i 0)
      rw [List.getD_eq_getElem?_getD, List.getElem?_append_right (by rw [h.len]; exact Nat.le_refl _), h.len]
      simp
    rw [e1, e2]
    exact numD_new _ i
  · rw [List.getElem?_append] at e
    split at e
    · have z := h.ls j m e
      rw [upd_ne (nD _ _ z)]
      exact z
    · rename_i hge
      have hj := (List.getElem?_eq_some_iff.mp e).1
      have ej : j = i := by
        have := h.len
        simp at hj
        omega
      subst ej
      rw [h.len] at e
      simp at e
      subst e
      rw [upd_ne (nD _ _ hl)]
      exact hl
theorem KidsTo.all {H H1 : Hp} {D : Addr} {N : Net} {ls : List Addr} (h : KidsTo H H1 D N ls N.length) : KidsD H1 D N ls := ⟨h.len, h.at_, h.ls⟩
theorem KidsTo.nil {H : Hp} {D : Addr} {N : Net} (hD : H D = none) : KidsTo H (upd H D (.dK [])) D N [] 0 := ⟨same_upd hD, rfl, upd_same, by simp⟩
theorem in_joins (N : Net) {i : Nat} (hi : i < N.length) : inV (natV i) ((joins N).map natV) = isJoinAt N i := by
  unfold inV
  rw [List.any_map]
  have e : ∀ k : Nat, ((fun y => eqV y (natV i)) ∘ natV) k = (k == i) := fun k => by
    show ((k : Int) == (i : Int)) = (k == i)
    by_cases h : k = i
    · subst h
      rw [beq_self_eq_true, beq_self_eq_true]
    · have h2 : ¬ (k : Int) = (i : Int) := by omega
      rw [beq_eq_false_iff_ne.mpr h2, beq_eq_false_iff_ne.mpr h]
  have hm : i ∈ joins N ↔ isJoinAt N i = true := by
    show i ∈ (List.range N.length).filter (isJoinAt N) ↔ _
    rw [List.mem_filter, List.mem_range]
    exact ⟨fun h => h.2, fun h => ⟨hi, h⟩⟩
  cases q : isJoinAt N i with
  | true =>
    rw [List.any_eq_true]
    exact ⟨i, hm.mpr q, by rw [e]; simp⟩
  | false =>
    rw [List.any_eq_false]
    intro k hk z
    rw [e] at z
    have z : k = i := by simpa using z
    subst z
    rw [hm.mp hk] at q
    cases q
theorem enc_ne_nil {N : Net} (h : 1 ≤ N.length) : PyData.eqv (encN N) (.tuple []) = false := by
  cases N with
  | nil => exact absurd h (by decide)
  | cons r N => rfl
def spAreLoose : Sp := fun vs H Q _ => ∃ v N, vs = [v] ∧ DT H v (encN N) ∧ Loose N ∧ ∀ H', Same H H' → Q (.bl true) H'
theorem c_are_loose_rows (T : Top mg) (D : Def K mg "are_loose_rows" "are_loose_rows" s_are_loose_rows) (C_is_loose_row : Cal P w K mg base 3 "is_loose_row" spLooseRow) (C_kids_of : Cal P w K mg base 1 "kids_of" spKidsOf) (C_ways_up : Cal P w K mg base 1 "ways_up" spWaysUp) (C_goes_round : Cal P w K mg base 2 "goes_round" spGoes) : Cal P w K mg base 4 "are_loose_rows" spAreLoose := by
  have C_kids_of := C_kids_of.mono (show 1 ≤ 3 by decide)
  have C_ways_up := C_ways_up.mono (show 1 ≤ 3 by decide)
  have C_goes_round := C_goes_round.mono (show 2 ≤ 3 by decide)
  refine D.cal sc_are_loose_rows (fun _ _ _ _ _ _ us hl => match us, hl with | [_], _ => rfl) (fun vs H Q E h => ?_) fun f cdv A outer s H vs Q E hr hsp => ?_
  · obtain ⟨_, _, rfl, _⟩ := h; rfl
  have hu := hu_of hr
  have hu64 := hu64_of hr
  refine ⟨_, (pss_cons (ps_if (PW.pt (pw_or (pt_not (pt_val (pe_isi (T := "tuple") rfl T.isinstance rfl T.tuple (by decide +kernel) (pv 0)))) (pw_or (pt_cmpR (eqd hu64) (pv 0) (pe_tup pa_nil) (nomark _)) (pw_or1 (pt_not (pt_val (pe_callB (allq rfl) rfl T.all (by decide +kernel) (pa_cons (pe_lc (own := [("row", 4)]) (g := gName 4) (tt := tYes) rfl sc_are_loose_rows.nd (pi_tupK K (pv 0)) (blkOk_by (own := [("row", 4)]) (N := n_are_loose_rows) (sc := defScope s_are_loose_rows) (by decide +kernel)) (fun _ _ _ _ _ => (pg_name (i := 4) sc_are_loose_rows.nd rfl (Or.inl rfl))) (fun _ _ _ _ _ => pts_nil) (fun _ _ _ _ _ => (pe_f C_is_loose_row hr rfl (pa_cons (pv 4) (pa_cons (pe_callB lenq rfl T.len PySem.boot_len (pa_cons (pv 0) pa_nil)) pa_nil))))) pa_nil)))))))) (pss_one (ps_ret pe_bl)) pss_nil)
    (pss_cons (ps_setDc (i := 1) (own := [("at", 5), ("row", 4)]) (tt := tYes) rfl sc_are_loose_rows.nd rfl rfl (sw_trueD rfl rfl rfl (by decide +kernel)) (pi_enumT rfl T.enumerate (pa_cons (pv 0) pa_nil)) (blkOk_by (own := [("at", 5), ("row", 4)]) (N := n_are_loose_rows) (sc := defScope s_are_loose_rows) (by decide +kernel)) (fun _ _ _ _ _ => (pgt (n := 2) rfl (pgs_cons (pg_name (i := 5) sc_are_loose_rows.nd rfl (Or.inl rfl)) (pgs_cons (pg_name (i := 4) sc_are_loose_rows.nd rfl (Or.inl rfl)) pgs_nil)))) (fun _ _ _ _ _ => pts_nil) (fun _ _ _ _ _ => (pv 5)) (fun _ _ _ _ _ => (pe_callTy lstOf rfl T.list (by decide +kernel) (pa_cons (pe_f C_kids_of hr rfl (pa_cons (pv 4) pa_nil)) pa_nil))))
    (pss_cons (ps_set (i := 2) sc_are_loose_rows.nd rfl (Or.inr rfl) (pe_f C_ways_up hr rfl (pa_cons (pv 1) pa_nil)))
    (pss_cons (ps_if (PW.pt (pw_or (pt_cmpR op_ne (pe_dget hu (pv 2) pe_int (fun _ _ => rfl)) pe_int (nomark _)) (pw_or1 (pt_val (pe_f C_goes_round hr rfl (pa_cons (pv 1) pa_nil)))))) (pss_one (ps_ret pe_bl)) pss_nil)
    (pss_cons (ps_set (i := 3) sc_are_loose_rows.nd rfl (Or.inr rfl) (pe_lc (own := [("at", 5), ("row", 4)]) rfl sc_are_loose_rows.nd (pi_enumT rfl T.enumerate (pa_cons (pv 0) pa_nil)) (blkOk_by (own := [("at", 5), ("row", 4)]) (N := n_are_loose_rows) (sc := defScope s_are_loose_rows) (by decide +kernel)) (fun _ _ _ _ _ => (pgt (n := 2) rfl (pgs_cons (pg_name (i := 5) sc_are_loose_rows.nd rfl (Or.inl rfl)) (pgs_cons (pg_name (i := 4) sc_are_loose_rows.nd rfl (Or.inl rfl)) pgs_nil)))) (fun _ _ _ _ _ => (pts_one (PW.pt (pw_or (pt_cmpR op_eq (pe_ix ixt (pv 4) pe_int (fun _ _ => rfl)) pe_str (nomark _)) (pw_or1 (pt_cmpR (eqd hu64) (pv 4) (pe_tup (pa_cons pe_str (pa_cons (pe_tup pa_nil) pa_nil))) (nomark _))))))) (fun _ _ _ _ _ => (pv 5))))
    (pss_one (ps_ret (pe_callB (allq rfl) rfl T.all (by decide +kernel) (pa_cons (pe_lc (own := [("at", 5)]) (g := gName 5) (tt := tYes) rfl sc_are_loose_rows.nd (pi_range2 rfl T.range (pa_cons pe_int (pa_cons (pe_callB lenq rfl T.len PySem.boot_len (pa_cons (pv 0) pa_nil)) pa_nil))) (blkOk_by (own := [("at", 5)]) (N := n_are_loose_rows) (sc := defScope s_are_loose_rows) (by decide +kernel)) (fun _ _ _ _ _ => (pg_name (i := 5) sc_are_loose_rows.nd rfl (Or.inl rfl))) (fun _ _ _ _ _ => pts_nil) (fun _ _ _ _ _ => (pe_chain op_le op_le pe_int (pe_dget hu (pv 2) (pv 5) (fun _ _ => rfl)) (pe_op op_add pe_int (pe_callTy call_int1 rfl T.int (by decide +kernel) (pa_cons (pe_cmpR ins (pv 5) (pv 3) (by rfl)) pa_nil)))))) pa_nil))))))))), ?_⟩
  obtain ⟨v, N, rfl, hd, G, q⟩ := hsp
  obtain ⟨a, xs, rfl, ha, hlen, hrow⟩ := net_at hd
  have h1 := G.pos
  have h49 := G.len
  refine ⟨_, rfl, _, _, .tup ha, k_tt, _, rfl, iteF ?_⟩
  refine ⟨_, rfl, Nat.zero_le _, fun q1 hq1 => ⟨encN N, .tuple [], .inl (hd.up (tk_new hq1)), .inl (.tup upd_same .nil), shaped_net G, by decide, ?_⟩⟩
  have S0 : Same H (upd H q1 (.tup [])) := same_upd hq1
  generalize upd H q1 (.tup []) = H0 at S0 ⊢
  refine ⟨_, rfl, ?_⟩
  simp only [enc_ne_nil h1]
  refine iteF ?_
  refine ⟨_, rfl, a, rfl, ⟨xs, sq_at (S0 _ _ ha)⟩, fun D1 hD1 => ?_⟩
  refine lc_map (n := N.length) (fun _ => true) (fun _ => .bl true) hD1 (by omega) (fun i H1 hi hS => go_tup (hS _ _ (S0 _ _ ha)) (by omega)) (fun H1 hS => st_tup (hS _ _ (S0 _ _ ha)) (by omega)) (fun i H1 x H2 Kt Kf hi hS hy hKt hKf => ?_) fun H1 hS hl => ⟨_, _, rfl, hl, _, rfl, iteF ?_⟩
  · obtain ⟨rfl, hx⟩ := hy
    have SH := Same.trans' S0 hS
    obtain ⟨r, er, hd1⟩ := hrow i x (hx xs (sq_at (SH _ _ ha)))
    exact ⟨rfl, _, rfl, _, rfl, a, xs, rfl, .inr (SH _ _ ha), x, r, N.length, by rw [hlen]; rfl, hd1.up (Same.tk SH), G.lrow er, fun H3 S3 => hKt rfl _ S3⟩
  · have S1 := Same.trans' S0 hS
    refine ⟨_, rfl, a, xs, rfl, sq_at (S1 _ _ ha), fun D hD => ?_⟩
    have hDH : H D = none := by
      cases e : H D with
      | none => rfl
      | some o => rw [S1 _ _ e] at hD; cases hD
    refine dc_gen (n := N.length) (fun i H2 => ∃ ls, KidsTo H1 H2 D N ls i) ⟨[], KidsTo.nil hD⟩ (fun i H2 hi ⟨ls, k⟩ => ⟨xs, xs[i], sq_at (k.same _ _ (S1 _ _ ha)), by simp [show i < xs.length by omega]⟩) (fun H2 ⟨ls, k⟩ => ⟨xs, sq_at (k.same _ _ (S1 _ _ ha)), by omega⟩) (fun i H2 x H3 hi ⟨ls, k⟩ hy => ?_) fun H2 ⟨ls, k⟩ => ?_
    · obtain ⟨t, y, rfl, ht, rfl, hx⟩ := hy
      obtain ⟨r, er, hd1⟩ := hrow i y (hx xs (sq_at (k.same _ _ (S1 _ _ ha))))
      have k2 := k.up (same_upd (o := .tup [.int (i : Nat), y]) ht)
      refine ⟨t, _, rfl, upd_same, rfl, _, _, rfl, _, _, rfl, rfl, rfl, ?_⟩
      generalize upd H2 t (.tup [.int (i : Nat), y]) = H3 at k2 ⊢
      refine ⟨_, rfl, _, rfl, y, r, rfl, hd1.up (Same.tk (Same.trans' S1 k2.same)), fun H4 p S4 hp => ⟨p, _, rfl, .inr hp, fun l hl => ?_⟩⟩
      have k4 := (k2.up S4).up (same_upd (o := .lst (r.kids.map natV)) hl)
      have ek : kidsAt N i = r.kids := kidsAt_some er
      refine ⟨_, nk i, rfl, k4.at_, by rw [numD_len]; exact smallT (by omega), ls ++ [l], k4.add hD (by rw [ek, upd_same])⟩
    · have kd := k.all
      have S2 := Same.trans' S1 k.same
      refine ⟨_, rfl, D, N, ls, rfl, kd, G, fun H3 p S3 p0 hp => ?_⟩
      have h0 : (ways N 0).length = 0 := by rw [G.led 0 h1]; rfl
      refine ⟨_, rfl, p, _, rfl, by
        have z := DGet.k (k := nk 0) hp
        rw [numD_val _ h1] at z
        exact z, rfl, _, rfl, ?_⟩
      rw [h0]
      refine iteNS rfl ⟨_, rfl, D, N, ls, rfl, kd.up S3, G, fun H4 S4 => ⟨_, rfl, iteF ?_⟩⟩
      have SH4 := Same.trans' S2 (Same.trans' S3 S4)
      have hp4 := S4 _ _ hp
      refine ⟨_, rfl, a, xs, rfl, sq_at (SH4 _ _ ha), fun D5 hD5 => ?_⟩
      refine lc_map (n := N.length) (isJoinAt N) natV hD5 (by omega) (fun i H5 hi hS => ⟨xs, xs[i], sq_at (hS _ _ (SH4 _ _ ha)), by simp [show i < xs.length by omega]⟩) (fun H5 hS => ⟨xs, sq_at (hS _ _ (SH4 _ _ ha)), by omega⟩) (fun i H5 x H6 Kt Kf hi hS hy hKt hKf => ?_) fun H5 hS hl => ?_
      · obtain ⟨t, y, rfl, ht, rfl, hx⟩ := hy
        obtain ⟨r, er, hd1⟩ := hrow i y (hx xs (sq_at (hS _ _ (SH4 _ _ ha))))
        obtain ⟨b, z, rfl, hb, hz⟩ := row_at hd1
        have SH := Same.trans' SH4 hS
        have S6 : Same H5 (upd H5 t (.tup [.int (i : Nat), .ref b])) := same_upd ht
        have SH6 := Same.trans' SH S6
        refine ⟨t, _, rfl, upd_same, rfl, _, _, rfl, _, _, rfl, rfl, rfl, ?_⟩
        generalize upd H5 t (.tup [.int (i : Nat), .ref b]) = H6 at S6 SH6 ⊢
        refine ⟨_, rfl, b, _, 0, _, rfl, rfl, SH6 _ _ hb, atI_nat (j := 0) rfl, rfl, _, rfl, ?_⟩
        have ej : isJoinAt N i = r.isJoin := by unfold isJoinAt; rw [er]
        rw [ej] at hKt hKf
        have hlf : ∀ s, r = .leaf s → NameOk s := fun s e => G.leafOk s (by rw [← e]; exact List.mem_of_getElem? er)
        refine ite2 (fun h => ?_) fun h => ?_
        · rw [dec_tag] at h
          exact ⟨_, rfl, hKt (tag_join.mp (of_decide_eq_true h)) _ S6⟩
        · rw [dec_tag] at h
          have hnj : r.isJoin = false := by
            cases e : r.isJoin with
            | false => rfl
            | true => exact absurd (decide_eq_true (tag_join.mpr e)) h
          refine ⟨_, rfl, Nat.zero_le _, fun q7 hq7 => ⟨small (show 2 ≤ 10000 by decide), fun q8 hq8 => ?_⟩⟩
          have S7 := same_upd (o := .tup []) hq7
          have e87 : q8 ≠ q7 := fun z => by rw [z, upd_same] at hq8; cases hq8
          have S8 := Same.trans' S7 (same_upd (o := .tup [.str "fork", .ref q7]) hq8)
          refine ⟨encR r, .tuple [.str "fork", .tuple []], .inl (hd1.up (Same.tk (Same.trans' SH6 S8))), .inl (.tup upd_same (.cons (.str _) (.cons (.tup (by rw [upd_ne (Ne.symm e87), upd_same]) .nil) .nil))), shaped_row hlf, by decide +kernel, ?_⟩
          have ev : PyData.eqv (encR r) (.tuple [.str "fork", .tuple []]) = false := by
            cases r with
            | leaf s => rfl
            | fork ks =>
              have h2 := (G.two i ks er).1
              cases ks with
              | nil => exact absurd h2 (by decide)
              | cons k ks => rfl
            | join k => cases hnj
          refine ⟨_, rfl, ?_⟩
          simp only [ev]
          exact iteF (hKf hnj _ (Same.trans' S6 S8))
      · rw [kept_joins] at hl
        refine ⟨_, rfl, a, xs, rfl, .inr (hS _ _ (SH4 _ _ ha)), 1, _, rfl, by omega, fun D6 hD6 => ?_⟩
        have hp5 := hS _ _ hp4
        refine lc_map (n := ((xs.length : Int) - 1).toNat) (fun _ => true) (fun _ => .bl true) hD6 (by omega) (fun i H6 hi hS6 => hi) (fun H6 hS6 => Nat.le_refl _) (fun i H6 x H7 Kt Kf hi hS6 hy hKt hKf => ?_) fun H6 hS6 hl6 => ⟨_, _, rfl, hl6, q _ (Same.trans' SH4 (Same.trans' hS hS6))⟩
        obtain ⟨rfl, ex⟩ := hy
        have ex : x = natV (i + 1) := by
          rw [ex]
          unfold natV
          congr 1
          omega
        subst ex
        have hin : i + 1 < N.length := by omega
        have hd := G.led (i + 1) hin
        refine ⟨rfl, _, rfl, _, rfl, p, _, rfl, by
          have z := DGet.k (k := nk (i + 1)) (hS6 _ _ hp5)
          rw [numD_val _ hin] at z
          exact z, 1, _, rfl, rfl, _, rfl, iteP (by rw [hd]; have := due_pos (N := N) (show 0 < i + 1 by omega); omega) ?_⟩
        have hfl : ((joins N).map natV).all flatV = true := by
          rw [List.all_map, List.all_eq_true]
          intro _ _
          rfl
        refine ⟨_, rfl, _, rfl, D5, _, rfl, .inl (hS6 _ _ hl), rfl, hfl, .inr ⟨_, rfl, 1, _, rfl, rfl, (ways N (i + 1)).length, _, rfl, rfl, bl_true ?_ (hKt rfl _ (Same.refl' _))⟩⟩
        show decide (((ways N (i + 1)).length : Int) ≤ 1 + if inV (natV (i + 1)) ((joins N).map natV) = true then 1 else 0) = true
        rw [in_joins N hin, hd]
        refine decide_eq_true ?_
        unfold dueWays isJoinAt
        rw [if_neg (by omega)]
        cases e : N[i + 1]? with
        | none => exact absurd (List.getElem?_eq_none_iff.mp e) (by omega)
        | some r => cases r <;> simp [Row.isJoin]
end
end JT
/-! R4: next_out, single, reduced. -/
namespace JT
open PySem PySem.Spec PyProof.Rows L2 PySem.W
abbrev s_next_out : Stmt := topS 44
abbrev n_next_out : List Str := ["rows", "kids", "first", "ways", "at", "some"]
theorem sc_next_out : FnScope n_next_out ["rows", "kids", "first"] (defScope s_next_out) :=
  ⟨rfl, rfl, rfl, by decide +kernel, rfl, by decide +kernel, by decide +kernel⟩
abbrev s_single : Stmt := topS 45
abbrev n_single : List Str := ["kids", "at", "some", "kid"]
theorem sc_single : FnScope n_single ["kids"] (defScope s_single) :=
  ⟨rfl, rfl, rfl, by decide +kernel, rfl, by decide +kernel, by decide +kernel⟩
abbrev s_reduced : Stmt := topS 46
abbrev n_reduced : List Str := ["rows", "first", "kids", "out", "at", "others", "row"]
theorem sc_reduced : FnScope n_reduced ["rows"] (defScope s_reduced) :=
  ⟨rfl, rfl, rfl, by decide +kernel, rfl, by decide +kernel, by decide +kernel⟩
section
variable {P : Program} {w : World} {K : PySem.W.Frag} {mg : Str → Option Value} {base : Heap}
theorem lock_same {G H5 : Hp} {d : Addr} {f u : HO} (h : Same (upd G d f) H5) (hd : G d = some u) : H5 = upd (upd H5 d u) d f ∧ Same G (upd H5 d u) := by
  refine ⟨?_, fun b o e => ?_⟩
  · rw [upd_upd, upd_id (h _ _ upd_same)]
  · by_cases hb : b = d
    · subst hb
      rw [upd_same, ← hd, e]
    · rw [upd_ne hb]
      exact h _ _ (by rw [upd_ne hb]; exact e)
theorem merge_new : ∀ (more acc : List (Key × V)), ((acc ++ more).map (·.1)).Nodup → mergeK acc more = acc ++ more
  | [], acc, _ => by simp [mergeK]
  | p :: more, acc, h => by
    have hn : valV acc p.1 = none := by
      cases e : valV acc p.1 with
      | none => rfl
      | some v =>
        have z := L2.valV_in e
        rw [List.map_append, List.map_cons] at h
        exact absurd rfl ((List.nodup_append.mp h).2.2 _ z p.1 (by simp))
    have e : mergeK acc (p :: more) = mergeK (putK acc p.1 p.2) more := rfl
    rw [e, putK_new _ hn, merge_new more (acc ++ [(p.1, p.2)]) (by simpa using h)]
    simp
theorem paired_of {α β : Type} {F : α → β → Prop} : ∀ {l : List α} {m : List β}, l.length = m.length → (∀ (i : Nat) (a : α) (b : β), l[i]? = some a → m[i]? = some b → F a b) → Paired F l m
  | [], [], _, _ => .nil
  | a :: l, b :: m, hl, h => .cons (h 0 a b rfl rfl) (paired_of (by simpa using hl) fun i x y e1 e2 => h (i + 1) x y e1 e2)
def spSingle : Sp := fun vs H Q _ => ∃ d N ls, vs = [.ref d] ∧ KidsD H d N ls ∧ Loose N ∧ ∀ H' p ls', Same H H' → KidsD H' p N ls' → Q (.ref p) H'
theorem refs_of {R : V → Prop} : ∀ {ys : List V}, (∀ y ∈ ys, ∃ q, y = .ref q ∧ R y) → ∃ ps : List Addr, ys = ps.map V.ref
  | [], _ => ⟨[], rfl⟩
  | y :: ys, h => by
    obtain ⟨q, e, _⟩ := h y (by simp)
    obtain ⟨ps, e2⟩ := refs_of (R := R) (ys := ys) fun z hz => h z (by simp [hz])
    exact ⟨q :: ps, by rw [e, e2]; rfl⟩
theorem c_single (T : Top mg) (D : Def K mg "single" "single" s_single) : Cal P w K mg base 1 "single" spSingle := by
  refine D.cal sc_single (fun _ _ _ _ _ _ us hl => match us, hl with | [_], _ => rfl) (fun vs H Q E h => ?_) fun f cdv A outer s H vs Q E hr hsp => ?_
  · obtain ⟨_, _, _, rfl, _⟩ := h; rfl
  refine ⟨_, (pss_one (ps_ret (pe_lock (pe_dc (own := [("at", 1), ("some", 2)]) (tt := tYes) rfl sc_single.nd (pi_items (pv 0)) (blkOk_by (own := [("at", 1), ("some", 2)]) (N := n_single) (sc := defScope s_single) (by decide +kernel)) (fun _ _ _ _ _ => (pgt (n := 2) rfl (pgs_cons (pg_name (i := 1) sc_single.nd rfl (Or.inl rfl)) (pgs_cons (pg_name (i := 2) sc_single.nd rfl (Or.inl rfl)) pgs_nil)))) (fun _ _ _ _ _ => pts_nil) (fun _ _ _ _ _ => (pv 1)) (fun _ _ _ _ _ => (pe_callTy (call_list_dK rfl) rfl T.list (by decide +kernel) (pa_cons (pe_callTy (dctP rfl) rfl T.dict (by decide +kernel) (pa_cons (pe_lc (own := [("kid", 3)]) (g := gName 3) (tt := tYes) rfl sc_single.nd (pi_listK K (pv 2)) (blkOk_by (own := [("kid", 3)]) (N := n_single) (by rfl)) (fun _ _ _ _ _ => (pg_name (i := 3) sc_single.nd rfl (Or.inl rfl))) (fun _ _ _ _ _ => pts_nil) (fun _ _ _ _ _ => (pe_tup (pa_cons (pv 3) (pa_cons pe_bl pa_nil))))) pa_nil)) pa_nil))))))), ?_⟩
  obtain ⟨d, N, ls, rfl, hk, G, q⟩ := hsp
  have h49 := G.len
  have hd := hk.2.1
  refine ⟨d, _, hd, trivial, fun od => ?_⟩
  refine ⟨_, rfl, d, od, _, rfl, upd_same, fun D hD => ?_⟩
  have nDd : D ≠ d := fun z => by rw [z, upd_same] at hD; cases hD
  have hDH : H D = none := by rw [upd_ne nDd] at hD; exact hD
  refine dc_gen (n := N.length) (fun i H1 => ∃ G1 ls', H1 = upd G1 d (.frz od (.dK (numD (fun i => .ref (ls.getD i 0)) N.length))) ∧ KidsTo H G1 D N ls' i) ⟨_, [], upd_cm (Ne.symm nDd), KidsTo.nil hDH⟩
    (fun i H1 hi ⟨G1, ls', e, k⟩ => ⟨by rw [e, upd_same], by rw [numD_len]; exact hi⟩) (fun H1 ⟨G1, ls', e, k⟩ => ⟨by rw [e, upd_same], by rw [numD_len]; exact Nat.le_refl _⟩) (fun i H1 x H2 hi ⟨G1, ls', e, k⟩ hy => ?_) fun H1 ⟨G1, ls', e, k⟩ => ?_
  · subst e
    obtain ⟨t, k1, v1, hkv, rfl, ht, rfl⟩ := hy
    rw [numD_get _ hi] at hkv
    cases hkv
    obtain ⟨l, el, egl, hl⟩ := hk.at hi
    rw [egl]
    have hdG := k.same _ _ hd
    have nld : l ≠ d := fun z => by rw [z, hd] at hl; cases hl
    have hl1 : upd G1 d (.frz od (.dK (numD (fun i => .ref (ls.getD i 0)) N.length))) l = some (.lst ((kidsAt N i).map natV)) := by rw [upd_ne nld]; exact k.same _ _ hl
    have S2 := same_upd (o := .tup [kV (nk i), .ref l]) ht
    refine ⟨t, _, rfl, upd_same, rfl, _, _, rfl, _, _, rfl, rfl, rfl, ?_⟩
    generalize upd (upd G1 d (.frz od (.dK (numD (fun i => .ref (ls.getD i 0)) N.length)))) t (.tup [kV (nk i), .ref l]) = H2 at S2 ⊢
    have hl2 := S2 _ _ hl1
    refine ⟨_, rfl, _, rfl, l, rfl, ⟨_, sl_at hl2⟩, fun D3 hD3 => ?_⟩
    refine lc_rel (n := (kidsAt N i).length) (fun j y H3 => ∃ q1 kd, y = .ref q1 ∧ (kidsAt N i)[j]? = some kd ∧ H3 q1 = some (.tup [natV kd, .bl true])) (fun j y H3 H4 tk ⟨q1, kd, e1, e2, e3⟩ => ⟨q1, kd, e1, e2, tk _ _ e3 (.inl ⟨_, rfl⟩)⟩) hD3 (by have := G.kids_le i; omega)
      (fun j H3 hj hS => go_lst (hS _ _ hl2) (by rw [nats_len]; exact hj)) (fun H3 hS => st_lst (hS _ _ hl2) (by rw [nats_len]; exact Nat.le_refl _)) (fun j H3 x H4 Kt Kf hj hS hy hKt => ?_) fun H3 ys hS hl3 hlen hR => ?_
    · obtain ⟨rfl, hx⟩ := hy
      have hx := hx _ (sl_at (hS _ _ hl2))
      rw [nats_at hj] at hx
      cases hx
      exact ⟨rfl, _, rfl, small (show 2 ≤ 10000 by decide), fun r hr => hKt _ _ (same_upd hr) ⟨r, _, rfl, List.getElem?_eq_getElem hj, upd_same⟩⟩
    · obtain ⟨ps, eps⟩ := refs_of (R := fun _ => True) (ys := ys) fun y hy => by
        obtain ⟨j, hj⟩ := List.getElem?_of_mem hy
        obtain ⟨q1, kd, e1, _⟩ := hR j y hj
        exact ⟨q1, e1, trivial⟩
      subst eps
      rw [List.length_map] at hlen
      refine ⟨D3, ps, (kidsAt N i).map fun k => (nk k, .bl true), rfl, hl3, ?_, fun p hp => ?_⟩
      · refine paired_of (by rw [hlen, List.length_map]) fun j a b e1 e2 => ?_
        obtain ⟨q1, kd, e3, e4, e5⟩ := hR j (.ref a) (by rw [List.getElem?_map, e1]; rfl)
        cases e3
        rw [List.getElem?_map, e4] at e2
        cases e2
        exact e5
      · have em : mergeK [] ((kidsAt N i).map fun k => (nk k, V.bl true)) = (kidsAt N i).map fun k => (nk k, V.bl true) := by
          rw [merge_new _ _ (by
            rw [List.nil_append, List.map_map]
            exact List.pairwise_map.mpr ((G.kids_nodup i).imp fun {a b} n e => n (nk_inj e)))]
          rfl
        rw [em]
        refine ⟨p, _, rfl, upd_same, fun r hr => ?_⟩
        have ek : ((kidsAt N i).map fun k => (nk k, V.bl true)).map (fun kv => kV kv.1) = (kidsAt N i).map natV := by
          rw [List.map_map]
          rfl
        rw [ek]
        have S5 : Same (upd G1 d (.frz od (.dK (numD (fun i => .ref (ls.getD i 0)) N.length)))) (upd (upd H3 p (.dK ((kidsAt N i).map fun k => (nk k, V.bl true)))) r (.lst ((kidsAt N i).map natV))) := Same.trans' S2 (Same.trans' hS (Same.trans' (same_upd hp) (same_upd hr)))
        have hr5 : upd (upd H3 p (.dK ((kidsAt N i).map fun k => (nk k, V.bl true)))) r (.lst ((kidsAt N i).map natV)) r = some (.lst ((kidsAt N i).map natV)) := upd_same
        generalize upd (upd H3 p (.dK ((kidsAt N i).map fun k => (nk k, V.bl true)))) r (.lst ((kidsAt N i).map natV)) = H5 at S5 hr5 ⊢
        obtain ⟨e5, SG⟩ := lock_same S5 hdG
        have k5 := k.up SG
        generalize upd H5 d (.dK (numD (fun i => .ref (ls.getD i 0)) N.length)) = G5 at e5 k5
        subst e5
        have nrd : r ≠ d := fun z => by rw [z, upd_same] at hr5; cases hr5
        rw [upd_ne nrd] at hr5
        exact ⟨_, nk i, rfl, by rw [upd_ne nDd]; exact k5.at_, by rw [numD_len]; exact smallT (by omega), _, ls' ++ [r], upd_cm (Ne.symm nDd), k5.add hDH hr5⟩
  · subst e
    refine ⟨upd_same, ?_⟩
    rw [upd_upd, upd_id (k.same _ _ hd)]
    exact q _ _ ls' k.same k.all
theorem row_of {N : Net} (G : Loose N) {i : Nat} (hi : i < N.length) : ∃ r, N[i]? = some r ∧ kidsAt N i = r.kids ∧ (r.kids = [] ↔ r.isLeaf = true) ∧ (r.kids.length = 1 ↔ r.isJoin = true) := by
  have er : N[i]? = some N[i] := List.getElem?_eq_getElem hi
  refine ⟨_, er, kidsAt_some er, ?_, ?_⟩
  · generalize N[i] = r at er
    cases r with
    | leaf s => simp [Row.kids, Row.isLeaf]
    | fork ks =>
      have := (G.two i ks er).1
      cases ks with
      | nil => exact absurd this (by decide)
      | cons k ks => simp [Row.kids, Row.isLeaf]
    | join k => simp [Row.kids, Row.isLeaf]
  · generalize N[i] = r at er
    cases r with
    | leaf s => simp [Row.kids, Row.isJoin]
    | fork ks =>
      have := (G.two i ks er).1
      simp only [Row.kids, Row.isJoin]
      constructor
      · intro z; omega
      · intro z; cases z
    | join k => simp [Row.kids, Row.isJoin]
theorem eq_nil_nats (l : List Nat) : (if false = true then !PyData.eqv (.list (l.map natD)) (.list []) else PyData.eqv (.list (l.map natD)) (.list [])) = l.isEmpty := by cases l <;> rfl
def spNextOut : Sp := fun vs H Q _ => ∃ v d N ls, vs = [v, .ref d, natV 0] ∧ DT H v (encN N) ∧ KidsD H d N ls ∧ Loose N ∧ ∀ H', Same H H' → Q .non H'
theorem c_next_out (T : Top mg) (D : Def K mg "next_out" "next_out" s_next_out) (C_ways_up : Cal P w K mg base 1 "ways_up" spWaysUp) : Cal P w K mg base 2 "next_out" spNextOut := by
  refine D.cal sc_next_out (fun _ _ _ _ _ _ us hl => match us, hl with | [_, _, _], _ => rfl) (fun vs H Q E h => ?_) fun f cdv A outer s H vs Q E hr hsp => ?_
  · obtain ⟨_, _, _, _, rfl, _⟩ := h; rfl
  have hu := hu_of hr
  have hu64 := hu64_of hr
  refine ⟨_, (pss_cons (ps_set (i := 3) sc_next_out.nd rfl (Or.inl rfl) (pe_f C_ways_up hr rfl (pa_cons (pv 1) pa_nil)))
    (pss_cons (ps_lock (ps_for PassesOwn.never rfl (pi_items (pv 1)) (pgt (n := 2) rfl (pgs_cons (pg_name (i := 4) sc_next_out.nd rfl (Or.inl rfl)) (pgs_cons (pg_name (i := 5) sc_next_out.nd rfl (Or.inl rfl)) pgs_nil)))
    (pss_cons (ps_if (PW.pt (pw_and (pt_cmpR (eqd hu64) (pv 5) (pe_lst pa_nil) (nomark _)) (pw_and1 (pt_cmpR op_ne (pe_ix ixt (pe_ix ixt (pv 0) (pv 4) (fun _ _ => rfl)) pe_int (fun _ _ => rfl)) pe_str (nomark _))))) (pss_one (ps_ret (pe_tup (pa_cons (pv 4) (pa_cons (pe_lst pa_nil) pa_nil))))) pss_nil)
    (pss_one (ps_if (PW.pt (pw_and (pt_cmpR op_eq (pe_callB lenq rfl T.len PySem.boot_len (pa_cons (pv 5) pa_nil)) pe_int (nomark _)) (pw_and1 (pt_cmpR op_eq (pe_dget hu (pv 3) (pv 4) (fun _ _ => rfl)) pe_int (nomark _))))) (pss_one (ps_ret (pe_tup (pa_cons (pv 4) (pa_cons (pv 5) pa_nil))))) pss_nil)))))
    (pss_one (ps_ret (pe_ifExp (pt_cmpR op_eq (pe_callB lenq rfl T.len PySem.boot_len (pa_cons (pe_dget hu (pv 1) (pv 2) (fun _ _ => rfl)) pa_nil)) pe_int (nomark _)) (pe_tup (pa_cons (pv 2) (pa_cons (pe_lst pa_nil) pa_nil))) pe_non))))), ?_⟩
  obtain ⟨v, d, N, ls, rfl, hdt, hk, G, q⟩ := hsp
  obtain ⟨a, xs, rfl, ha, hlen, hrow⟩ := net_at hdt
  have h49 := G.len
  refine ⟨_, rfl, d, N, ls, rfl, hk, G, fun H1 p S1 p0 hp => ?_⟩
  have hk1 := hk.up S1
  have hd1 := hk1.2.1
  have npd : p ≠ d := fun z => by rw [z, hk.2.1] at p0; cases p0
  have nad : a ≠ d := fun z => by rw [z, hk.2.1] at ha; cases ha
  refine ⟨d, _, hd1, trivial, fun od => ?_⟩
  refine ⟨_, rfl, d, od, _, rfl, upd_same, ?_⟩
  refine for_gen (n := N.length) (fun i σ H2 => (∃ s4 s5, σ = [some (.ref a), some (.ref d), some (natV 0), some (.ref p), s4, s5]) ∧ ∃ G2, H2 = upd G2 d (.frz od (.dK (numD (fun i => .ref (ls.getD i 0)) N.length))) ∧ Same H1 G2)
    ⟨⟨_, _, rfl⟩, _, rfl, Same.refl' _⟩ (fun i σ H2 hi ⟨_, G2, e, _⟩ => ⟨by rw [e, upd_same], by rw [numD_len]; exact hi⟩) (fun σ H2 ⟨_, G2, e, _⟩ => ⟨by rw [e, upd_same], by rw [numD_len]; exact Nat.le_refl _⟩) (fun i σ H2 x H3 hi ⟨⟨s4, s5, es⟩, G2, e, S2⟩ hy => ?_) fun σ H2 ⟨⟨s4, s5, es⟩, G2, e, S2⟩ => ?_
  · subst es e
    obtain ⟨t, k1, v1, hkv, rfl, ht, rfl⟩ := hy
    rw [numD_get _ hi] at hkv
    cases hkv
    obtain ⟨l, el, egl, hl⟩ := hk1.at hi
    rw [egl]
    have hdG := S2 _ _ hd1
    have nld : l ≠ d := fun z => by rw [z, hd1] at hl; cases hl
    have hl1 : upd G2 d (.frz od (.dK (numD (fun i => .ref (ls.getD i 0)) N.length))) l = some (.lst ((kidsAt N i).map natV)) := by rw [upd_ne nld]; exact S2 _ _ hl
    have hp1 : upd G2 d (.frz od (.dK (numD (fun i => .ref (ls.getD i 0)) N.length))) p = some (.dK (numD (fun k => natV (ways N k).length) N.length)) := by rw [upd_ne npd]; exact S2 _ _ hp
    have S3 := same_upd (o := .tup [kV (nk i), .ref l]) ht
    refine ⟨t, _, rfl, upd_same, rfl, _, _, rfl, _, _, rfl, rfl, ?_⟩
    have oldD : ∀ {b : Addr} {o : HO} {H5 : Hp}, b ≠ d → H b = some o → Same (upd G2 d (.frz od (.dK (numD (fun i => .ref (ls.getD i 0)) N.length)))) H5 → H5 b = some o := fun hb e s => s _ _ (by rw [upd_ne hb]; exact S2 _ _ (S1 _ _ e))
    generalize upd (upd G2 d (.frz od (.dK (numD (fun i => .ref (ls.getD i 0)) N.length)))) t (.tup [kV (nk i), .ref l]) = H3 at S3 ⊢
    refine ⟨_, rfl, Nat.zero_le _, fun q4 hq4 => ⟨_, _, dq_nats ((same_upd hq4) _ _ (S3 _ _ hl1)), dq_nil upd_same, shaped_nats _, by decide, ?_⟩⟩
    have S4 := Same.trans' S3 (same_upd (o := .lst []) hq4)
    generalize upd H3 q4 (.lst []) = H4 at S4 ⊢
    rw [eq_nil_nats]
    obtain ⟨r, er, ek, h0, h1⟩ := row_of G hi
    obtain ⟨xi, hxi⟩ : ∃ xi, xs[i]? = some xi := ⟨_, List.getElem?_eq_getElem (by omega)⟩
    obtain ⟨r', er', hdr⟩ := hrow i xi hxi
    rw [er] at er'
    cases er'
    obtain ⟨b, y, rfl, hb, hy⟩ := row_at hdr
    have hbd : b ≠ d := fun z => by rw [z, hk.2.1] at hb; cases hb
    have fin : ∀ H5, Same (upd G2 d (.frz od (.dK (numD (fun i => .ref (ls.getD i 0)) N.length)))) H5 → ∃ G5, H5 = upd G5 d (.frz od (.dK (numD (fun i => .ref (ls.getD i 0)) N.length))) ∧ Same H1 G5 := fun H5 S5 => by
      obtain ⟨e5, SG⟩ := lock_same S5 hdG
      exact ⟨_, e5, Same.trans' S2 SG⟩
    have rest : ∀ (Rt : Prop), ((kidsAt N i).length = 1 → (ways N i).length = 2) := fun _ h => by
      rw [ek] at h
      have hj := h1.mp h
      rw [G.led i hi]
      unfold dueWays
      cases r with
      | leaf s => cases hj
      | fork ks => cases hj
      | join k =>
        rw [er, if_neg]
        intro z
        subst z
        exact G.root k er
    refine ⟨_, rfl, ?_⟩
    have second : ∀ {A B : Prop}, ((kidsAt N i).length = 1 → False ∨ True) → True := fun _ => trivial
    by_cases hl0 : (kidsAt N i).isEmpty = true
    · rw [hl0]
      have hlf : r.isLeaf = true := h0.mp (by rw [← ek]; exact List.isEmpty_iff.mp hl0)
      have htag : r.tag = "leaf" := tag_leaf.mpr hlf
      refine iteT ⟨_, rfl, _, rfl, a, xs, (i : Int), _, rfl, rfl, oldD nad ha S4, atI_nat hxi, b, _, 0, _, rfl, rfl, oldD hbd hb S4, atI_nat (j := 0) rfl, rfl, _, rfl, iteNS (by rw [htag]) ?_⟩
      refine ⟨_, rfl, l, _, rfl, .inl (S4 _ _ hl1), rfl, _, rfl, iteN (fun z => ?_) ⟨⟨_, _, rfl⟩, fin _ S4⟩⟩
      rw [nats_len, List.isEmpty_iff.mp hl0] at z
      cases z
    · have hl0 : (kidsAt N i).isEmpty = false := by simpa using hl0
      rw [hl0]
      refine iteF ?_
      refine ⟨_, rfl, l, _, rfl, .inl (S4 _ _ hl1), rfl, _, rfl, ite2 (fun z => ?_) fun z => ⟨⟨_, _, rfl⟩, fin _ S4⟩⟩
      have z := of_decide_eq_true z
      rw [nats_len] at z
      have z : (kidsAt N i).length = 1 := by injection z with z; omega
      have hw := rest True z
      refine ⟨_, rfl, _, rfl, p, _, rfl, by
        have z := DGet.k (k := nk i) (S4 _ _ hp1)
        rw [numD_val _ hi] at z
        exact z, rfl, _, rfl, iteN (fun z2 => ?_) ⟨⟨_, _, rfl⟩, fin _ S4⟩⟩
      rw [hw] at z2
      cases z2
  · subst es e
    refine ⟨upd_same, ?_⟩
    rw [upd_upd, upd_id (S2 _ _ hd1)]
    have hd2 := S2 _ _ hd1
    obtain ⟨l, el, egl, hl⟩ := hk1.at G.pos
    refine ⟨_, rfl, _, rfl, d, _, rfl, by
      have z := DGet.k (k := nk 0) hd2
      rw [numD_val _ G.pos, egl] at z
      exact z, l, _, rfl, .inl (S2 _ _ hl), rfl, _, rfl, iteN (fun z => ?_) (q _ (Same.trans' S1 S2))⟩
    rw [nats_len] at z
    have z : (kidsAt N 0).length = 1 := by injection z with z; omega
    obtain ⟨r, er, ek, h0, h1⟩ := row_of G G.pos
    rw [ek] at z
    have hj := h1.mp z
    cases r with
    | leaf s => cases hj
    | fork ks => cases hj
    | join k => exact G.root k er
def spReduced : Sp := fun vs H Q _ => ∃ v N, vs = [v] ∧ DT H v (encN N) ∧ Loose N ∧ ∀ H' p d ls, Same H H' → KidsD H' d N ls → H' p = some (.tup [.ref d, natV 0]) → Q (.ref p) H'
theorem c_reduced (T : Top mg) (D : Def K mg "reduced" "reduced" s_reduced) (C_kids_of : Cal P w K mg base 1 "kids_of" spKidsOf) (C_single : Cal P w K mg base 1 "single" spSingle) (C_next_out : Cal P w K mg base 2 "next_out" spNextOut) (C_without : Cal P w K mg base 1 "without" (fun _ _ _ _ => False)) : Cal P w K mg base 3 "reduced" spReduced := by
  have C_kids_of := C_kids_of.mono (show 1 ≤ 2 by decide)
  have C_single := C_single.mono (show 1 ≤ 2 by decide)
  have C_without := C_without.mono (show 1 ≤ 2 by decide)
  refine D.cal sc_reduced (fun _ _ _ _ _ _ us hl => match us, hl with | [_], _ => rfl) (fun vs H Q E h => ?_) fun f cdv A outer s H vs Q E hr hsp => ?_
  · obtain ⟨_, _, rfl, _⟩ := h; rfl
  have hu := hu_of hr
  have hu64 := hu64_of hr
  refine ⟨_, (pss_cons (ps_set (i := 1) sc_reduced.nd rfl (Or.inl rfl) pe_int)
    (pss_cons (ps_set (i := 2) sc_reduced.nd rfl (Or.inl rfl) (pe_f C_single hr rfl (pa_cons (pe_dc (own := [("at", 4), ("row", 6)]) (tt := tYes) rfl sc_reduced.nd (pi_enumT rfl T.enumerate (pa_cons (pv 0) pa_nil)) (blkOk_by (own := [("at", 4), ("row", 6)]) (N := n_reduced) (sc := defScope s_reduced) (by decide +kernel)) (fun _ _ _ _ _ => (pgt (n := 2) rfl (pgs_cons (pg_name (i := 4) sc_reduced.nd rfl (Or.inl rfl)) (pgs_cons (pg_name (i := 6) sc_reduced.nd rfl (Or.inl rfl)) pgs_nil)))) (fun _ _ _ _ _ => pts_nil) (fun _ _ _ _ _ => (pv 4)) (fun _ _ _ _ _ => (pe_callTy lstOf rfl T.list (by decide +kernel) (pa_cons (pe_f C_kids_of hr rfl (pa_cons (pv 6) pa_nil)) pa_nil)))) pa_nil)))
    (pss_cons (ps_set (i := 3) sc_reduced.nd rfl (Or.inl rfl) (pe_f C_next_out hr rfl (pa_cons (pv 0) (pa_cons (pv 2) (pa_cons (pv 1) pa_nil)))))
    (pss_cons (ps_while PassesOwn.never (pt_cmpR op_notN (pv 3) pe_non (nomark _)) (pss_cons (ps_asg (pv 3) (pgt (n := 2) rfl (pgs_cons (pg_name (i := 4) sc_reduced.nd rfl (Or.inl rfl)) (pgs_cons (pg_name (i := 5) sc_reduced.nd rfl (Or.inl rfl)) pgs_nil))))
    (pss_cons (ps_if (pt_cmpR op_eq (pv 4) (pv 1) (nomark _)) (pss_cons (ps_if (pt_cmpR (eqd hu64) (pe_dget hu (pv 2) (pv 1) (fun _ _ => rfl)) (pe_lst pa_nil) (nomark _)) (pss_one (ps_ret pe_non)) pss_nil)
    (pss_one (ps_set (i := 1) sc_reduced.nd rfl (Or.inl rfl) (pe_ix ixl (pe_dget hu (pv 2) (pv 1) (fun _ _ => rfl)) pe_int (fun _ _ => rfl))))) pss_nil)
    (pss_cons (ps_set (i := 2) sc_reduced.nd rfl (Or.inl rfl) (pe_f C_single hr rfl (pa_cons (pe_f C_without hr rfl (pa_cons (pv 2) (pa_cons (pv 4) (pa_cons (pv 5) pa_nil)))) pa_nil)))
    (pss_one (ps_set (i := 3) sc_reduced.nd rfl (Or.inl rfl) (pe_f C_next_out hr rfl (pa_cons (pv 0) (pa_cons (pv 2) (pa_cons (pv 1) pa_nil))))))))))
    (pss_one (ps_ret (pe_tup (pa_cons (pv 2) (pa_cons (pv 1) pa_nil))))))))), ?_⟩
  obtain ⟨v, N, rfl, hd, G, q⟩ := hsp
  obtain ⟨a, xs, rfl, ha, hlen, hrow⟩ := net_at hd
  have h49 := G.len
  refine ⟨_, rfl, a, xs, rfl, sq_at ha, fun D hD => ?_⟩
  refine dc_gen (n := N.length) (fun i H2 => ∃ ls, KidsTo H H2 D N ls i) ⟨[], KidsTo.nil hD⟩ (fun i H2 hi ⟨ls, k⟩ => ⟨xs, xs[i], sq_at (k.same _ _ ha), by simp [show i < xs.length by omega]⟩) (fun H2 ⟨ls, k⟩ => ⟨xs, sq_at (k.same _ _ ha), by omega⟩) (fun i H2 x H3 hi ⟨ls, k⟩ hy => ?_) fun H2 ⟨ls, k⟩ => ?_
  · obtain ⟨t, y, rfl, ht, rfl, hx⟩ := hy
    obtain ⟨r, er, hd1⟩ := hrow i y (hx xs (sq_at (k.same _ _ ha)))
    have k2 := k.up (same_upd (o := .tup [.int (i : Nat), y]) ht)
    refine ⟨t, _, rfl, upd_same, rfl, _, _, rfl, _, _, rfl, rfl, rfl, ?_⟩
    generalize upd H2 t (.tup [.int (i : Nat), y]) = H3 at k2 ⊢
    refine ⟨_, rfl, _, rfl, y, r, rfl, hd1.up (Same.tk k2.same), fun H4 p S4 hp => ⟨p, _, rfl, .inr hp, fun l hl => ?_⟩⟩
    have k4 := (k2.up S4).up (same_upd (o := .lst (r.kids.map natV)) hl)
    have ek : kidsAt N i = r.kids := kidsAt_some er
    refine ⟨_, nk i, rfl, k4.at_, by rw [numD_len]; exact smallT (by omega), ls ++ [l], k4.add hD (by rw [ek, upd_same])⟩
  · refine ⟨D, N, ls, rfl, k.all, G, fun H3 d2 ls2 S3 kd2 => ?_⟩
    have SH := Same.trans' k.same S3
    refine ⟨_, rfl, _, rfl, _, rfl, _, d2, N, ls2, rfl, hd.up (Same.tk SH), kd2, G, fun H4 S4 => ?_⟩
    refine ⟨fun m σ H5 => (∃ s1 s2 s3 s4, σ = [s1, some (natV 0), some (.ref d2), some .non, s2, s3, s4]) ∧ H5 = H4, ⟨0, ⟨_, _, _, _, rfl⟩, rfl⟩, ?_⟩
    rintro m σ H5 ⟨⟨s1, s2, s3, s4, rfl⟩, rfl⟩
    refine ⟨_, rfl, rfl, _, rfl, iteF ?_⟩
    exact ⟨_, rfl, _, rfl, small (show 2 ≤ 10000 by decide), fun p hp => q _ p d2 ls2 (Same.trans' SH (Same.trans' S4 (same_upd hp))) (kd2.up (Same.trans' S4 (same_upd hp))) upd_same⟩
end
end JT
/-! Mat5: nets alike up to their rows' numbers. -/
namespace JT
open PySem PySem.Spec PyProof.Rows L2 PySem.W
structure Iso (N N' : Net) (π : Nat → Nat) : Prop where
  len : N'.length = N.length
  lt : ∀ i, i < N.length → π i < N.length
  inj : ∀ i j, i < N.length → j < N.length → π i = π j → i = j
  zero : π 0 = 0
  leaf : ∀ (i : Nat) (s : Str), N[i]? = some (Row.leaf s) → N'[π i]? = some (Row.leaf s)
  fork : ∀ (i : Nat) (ks : List Nat), N[i]? = some (Row.fork ks) → ∃ ks', N'[π i]? = some (Row.fork ks') ∧ ks'.Perm (ks.map π)
  join : ∀ (i k : Nat), N[i]? = some (Row.join k) → N'[π i]? = some (Row.join (π k))
theorem onto_of {l : List Nat} {n : Nat} (nd : l.Nodup) (lt : ∀ x ∈ l, x < n) (hl : l.length = n) : ∀ j, j < n → j ∈ l := by
  intro j hj
  refine Classical.byContradiction fun h => ?_
  have z := nodup_le (l := j :: l) (m := List.range n) (List.nodup_cons.mpr ⟨h, nd⟩) fun x hx => by
    rcases List.mem_cons.mp hx with e | hx
    · rw [e]; exact List.mem_range.mpr hj
    · exact List.mem_range.mpr (lt x hx)
  rw [List.length_cons, List.length_range] at z
  omega
section
variable {N N' : Net} {π : Nat → Nat}
theorem Iso.onto (I : Iso N N' π) : ∀ j, j < N.length → ∃ i, i < N.length ∧ π i = j := by
  intro j hj
  have nd : ((List.range N.length).map π).Nodup := List.pairwise_map.mpr (by
    rw [List.pairwise_iff_getElem]
    intro a b ha hb hab e
    rw [List.getElem_range, List.getElem_range] at e
    rw [List.length_range] at ha hb
    have := I.inj a b ha hb e
    omega)
  obtain ⟨i, hi, e⟩ := List.mem_map.mp (onto_of nd (fun x hx => by
    obtain ⟨i, hi, e⟩ := List.mem_map.mp hx
    rw [← e]
    exact I.lt i (List.mem_range.mp hi)) (by rw [List.length_map, List.length_range]) j hj)
  exact ⟨i, List.mem_range.mp hi, e⟩
theorem row_ex {N : Net} {i : Nat} (h : i < N.length) : ∃ r, N[i]? = some r := ⟨_, List.getElem?_eq_getElem h⟩
theorem Iso.kids (I : Iso N N' π) {i : Nat} (hi : i < N.length) : (kidsAt N' (π i)).Perm ((kidsAt N i).map π) := by
  obtain ⟨r, er⟩ := row_ex hi
  rw [kidsAt_some er]
  cases r with
  | leaf s => rw [kidsAt_some (I.leaf i s er)]; exact .refl _
  | fork ks =>
    obtain ⟨ks', e, p⟩ := I.fork i ks er
    rw [kidsAt_some e]
    exact p
  | join k => rw [kidsAt_some (I.join i k er)]; exact .refl _
theorem Iso.dn (I : Iso N N' π) {i l j : Nat} (h : Dn N i l j) (hi : i < N.length) : Dn N' (π i) l (π j) := by
  induction h with
  | refl i => exact .refl _
  | step a b ih =>
    rename_i i k l j
    have hk : π k ∈ kidsAt N' (π i) := (I.kids hi).mem_iff.mpr (List.mem_map_of_mem a)
    cases b with
    | refl => exact .step hk (.refl _)
    | step a' b' => exact .step hk (ih (kidsAt_lt a'))
theorem Iso.lts (I : Iso N N' π) (hlt : ∀ i k, k ∈ kidsAt N i → k < N.length) {i l j : Nat} (h : Dn N i l j) (hi : i < N.length) : j < N.length := by
  induction h with
  | refl i => exact hi
  | step a b ih => exact ih (hlt _ _ a)
theorem Iso.back (I : Iso N N' π) (hlt : ∀ i k, k ∈ kidsAt N i → k < N.length) {i' l j' : Nat} (h : Dn N' i' l j') : ∀ i, i < N.length → π i = i' → ∃ j, j < N.length ∧ π j = j' ∧ Dn N i l j := by
  induction h with
  | refl i' => exact fun i hi e => ⟨i, hi, e, .refl i⟩
  | step a b ih =>
    intro i hi e
    subst e
    obtain ⟨k, hk, ek⟩ := List.mem_map.mp ((I.kids hi).mem_iff.mp a)
    obtain ⟨j, hj, ej, d⟩ := ih k (hlt i k hk) ek
    exact ⟨j, hj, ej, .step hk d⟩
theorem Iso.row (I : Iso N N' π) {i : Nat} (hi : i < N.length) : ∀ s, N'[π i]? = some (Row.leaf s) → N[i]? = some (Row.leaf s) := by
  intro s h
  obtain ⟨r, er⟩ := row_ex hi
  cases r with
  | leaf z => rw [I.leaf i z er] at h; cases h; exact er
  | fork ks => obtain ⟨ks', e, _⟩ := I.fork i ks er; rw [e] at h; cases h
  | join k => rw [I.join i k er] at h; cases h
theorem Iso.rl (I : Iso N N' π) {i : Nat} {a : Str} {m : Nat} (h : Rl N i a m) (hi : i < N.length) : Rl N' (π i) a m := by
  obtain ⟨j, hj, d⟩ := h
  exact ⟨π j, I.leaf j a hj, I.dn d hi⟩
theorem Iso.rlb (I : Iso N N' π) (hlt : ∀ i k, k ∈ kidsAt N i → k < N.length) {i : Nat} {a : Str} {m : Nat} (h : Rl N' (π i) a m) (hi : i < N.length) : Rl N i a m := by
  obtain ⟨j', hj, d⟩ := h
  obtain ⟨j, hj2, e, d2⟩ := I.back hlt d i hi rfl
  subst e
  exact ⟨j, I.row hj2 a hj, d2⟩
theorem rl_lt {N : Net} {i m : Nat} {a : Str} (h : Rl N i a m) : i < N.length := by
  obtain ⟨j, hj, d⟩ := h
  cases d with
  | refl => exact (List.getElem?_eq_some_iff.mp hj).1
  | step q _ => exact kidsAt_lt q
theorem Iso.dist (I : Iso N N' π) (hlt : ∀ i k, k ∈ kidsAt N i → k < N.length) {a b : Str} {m : Nat} : IsDist N' a b m ↔ IsDist N a b m := by
  constructor
  · intro h
    obtain ⟨r', l, l', h1, h2, e⟩ := h.ex
    obtain ⟨r, hr, er⟩ := I.onto r' (by rw [← I.len]; exact rl_lt h1)
    subst er
    exact ⟨⟨r, l, l', I.rlb hlt h1 hr, I.rlb hlt h2 hr, e⟩, fun s k k' g1 g2 => h.least (π s) k k' (I.rl g1 (rl_lt g1)) (I.rl g2 (rl_lt g2))⟩
  · intro h
    obtain ⟨r, l, l', h1, h2, e⟩ := h.ex
    refine ⟨⟨π r, l, l', I.rl h1 (rl_lt h1), I.rl h2 (rl_lt h2), e⟩, fun s' k k' g1 g2 => ?_⟩
    obtain ⟨s, hs, es⟩ := I.onto s' (by rw [← I.len]; exact rl_lt g1)
    subst es
    exact h.least s k k' (I.rlb hlt g1 hs) (I.rlb hlt g2 hs)
theorem Iso.mem_names (I : Iso N N' π) {a : Str} : a ∈ JT.names N' ↔ a ∈ JT.names N := by
  rw [JT.mem_names, JT.mem_names]
  constructor
  · rintro ⟨j', h⟩
    obtain ⟨j, hj, e⟩ := I.onto j' (by rw [← I.len]; exact (List.getElem?_eq_some_iff.mp h).1)
    subst e
    exact ⟨j, I.row hj a h⟩
  · rintro ⟨j, h⟩
    exact ⟨π j, I.leaf j a h⟩
theorem map_nodup (I : Iso N N' π) {l : List Nat} (nd : l.Nodup) (lt : ∀ x ∈ l, x < N.length) : (l.map π).Nodup := by
  induction l with
  | nil => exact List.nodup_nil
  | cons a l ih =>
    obtain ⟨h1, h2⟩ := List.nodup_cons.mp nd
    rw [List.map_cons]
    refine List.nodup_cons.mpr ⟨fun h => ?_, ih h2 fun x hx => lt x (by simp [hx])⟩
    obtain ⟨b, hb, e⟩ := List.mem_map.mp h
    have := I.inj b a (lt b (by simp [hb])) (lt a (by simp)) e
    subst this
    exact h1 hb
/-- two lists without repeats, the same up to π -/
theorem len_of (I : Iso N N' π) {l l' : List Nat} (nd : l.Nodup) (nd' : l'.Nodup) (lt : ∀ x ∈ l, x < N.length) (lt' : ∀ x ∈ l', x < N.length) (h : ∀ x, x < N.length → (π x ∈ l' ↔ x ∈ l)) : l'.length = l.length := by
  have a := nodup_le (l := l.map π) (m := l') (map_nodup I nd lt) fun y hy => by
    obtain ⟨x, hx, e⟩ := List.mem_map.mp hy
    rw [← e]
    exact (h x (lt x hx)).mpr hx
  have b := nodup_le (l := l') (m := l.map π) nd' fun y hy => by
    obtain ⟨x, hx, e⟩ := I.onto y (lt' y hy)
    subst e
    exact List.mem_map_of_mem ((h x hx).mp hy)
  rw [List.length_map] at a b
  omega
theorem names_nodup_of {N : Net} (h : ∀ (i j : Nat) (s : Str), N[i]? = some (Row.leaf s) → N[j]? = some (Row.leaf s) → i = j) : (JT.names N).Nodup := by
  unfold JT.names
  induction N with
  | nil => exact List.nodup_nil
  | cons r N ih =>
    have ih := ih fun i j s h1 h2 => by
      have := h (i + 1) (j + 1) s h1 h2
      omega
    cases r with
    | fork ks => exact ih
    | join k => exact ih
    | leaf s =>
      show (s :: N.filterMap Row.name?).Nodup
      refine List.nodup_cons.mpr ⟨fun hm => ?_, ih⟩
      obtain ⟨j, hj⟩ := JT.mem_names.mp (show s ∈ JT.names N from hm)
      have := h 0 (j + 1) s rfl hj
      omega
theorem names_inj {N : Net} (nd : (JT.names N).Nodup) : ∀ (i j : Nat) (s : Str), N[i]? = some (Row.leaf s) → N[j]? = some (Row.leaf s) → i = j := by
  induction N with
  | nil => intro i j s h; simp at h
  | cons r N ih =>
    have tail : (JT.names N).Nodup ∧ ∀ s, r = .leaf s → s ∉ JT.names N := by
      cases r with
      | fork ks => exact ⟨nd, fun s e => by cases e⟩
      | join k => exact ⟨nd, fun s e => by cases e⟩
      | leaf s =>
        have nd : (s :: JT.names N).Nodup := nd
        obtain ⟨h1, h2⟩ := List.nodup_cons.mp nd
        exact ⟨h2, fun t e => by cases e; exact h1⟩
    intro i j s h1 h2
    cases i with
    | zero =>
      cases j with
      | zero => rfl
      | succ j =>
        have e : r = .leaf s := by simpa using h1
        exact absurd (JT.mem_names.mpr ⟨j, h2⟩) (tail.2 s e)
    | succ i =>
      cases j with
      | zero =>
        have e : r = .leaf s := by simpa using h2
        exact absurd (JT.mem_names.mpr ⟨i, h1⟩) (tail.2 s e)
      | succ j => rw [ih tail.1 i j s h1 h2]
theorem Iso.isJoin (I : Iso N N' π) {i : Nat} (hi : i < N.length) : (π i ∈ JT.joins N' ↔ i ∈ JT.joins N) := by
  have mem : ∀ {M : Net} {j : Nat}, j ∈ JT.joins M ↔ ∃ k, M[j]? = some (Row.join k) := fun {M j} => by
    unfold JT.joins
    rw [List.mem_filter, List.mem_range]
    constructor
    · rintro ⟨h, e⟩
      obtain ⟨r, er⟩ := row_ex h
      rw [er] at e
      cases r with
      | join k => exact ⟨k, er⟩
      | leaf s => cases e
      | fork ks => cases e
    · rintro ⟨k, e⟩
      refine ⟨(List.getElem?_eq_some_iff.mp e).1, ?_⟩
      rw [e]
      rfl
  rw [mem, mem]
  constructor
  · rintro ⟨k, e⟩
    obtain ⟨r, er⟩ := row_ex hi
    cases r with
    | join k' => exact ⟨k', er⟩
    | leaf s => rw [I.leaf i s er] at e; cases e
    | fork ks => obtain ⟨_, e2, _⟩ := I.fork i ks er; rw [e2] at e; cases e
  · rintro ⟨k, e⟩
    exact ⟨_, I.join i k e⟩
theorem joins_lt {N : Net} : ∀ x ∈ JT.joins N, x < N.length := fun x h => List.mem_range.mp (List.mem_filter.mp h).1
theorem joins_nodup (N : Net) : (JT.joins N).Nodup := List.Nodup.sublist List.filter_sublist List.nodup_range
theorem Iso.loose (I : Iso N N' π) (G : Loose N) : Loose N' := by
  have hlt := G.lt
  have kin : ∀ i' k', k' ∈ kidsAt N' i' → ∃ i k, i < N.length ∧ k < N.length ∧ π i = i' ∧ π k = k' ∧ k ∈ kidsAt N i := fun i' k' h => by
    obtain ⟨i, hi, e⟩ := I.onto i' (by rw [← I.len]; exact kidsAt_lt h)
    subst e
    obtain ⟨k, hk, ek⟩ := List.mem_map.mp ((I.kids hi).mem_iff.mp h)
    exact ⟨i, k, hi, hlt i k hk, rfl, ek, hk⟩
  have kp : ∀ i k, i < N.length → k < N.length → (π k ∈ kidsAt N' (π i) ↔ k ∈ kidsAt N i) := fun i k hi hk => by
    constructor
    · intro h
      obtain ⟨j, hj, e⟩ := List.mem_map.mp ((I.kids hi).mem_iff.mp h)
      rw [← I.inj j k (hlt i j hj) hk e]
      exact hj
    · intro h
      exact (I.kids hi).mem_iff.mpr (List.mem_map_of_mem h)
  have kn : ∀ i, (kidsAt N' i).Nodup := fun i' => by
    by_cases h : i' < N.length
    · obtain ⟨i, hi, e⟩ := I.onto i' h
      subst e
      exact (I.kids hi).nodup_iff.mpr (map_nodup I (G.kids_nodup i) fun x hx => hlt i x hx)
    · rw [kidsAt_none (by rw [I.len]; omega)]
      exact List.nodup_nil
  refine ⟨by rw [I.len]; exact G.pos, by rw [I.len]; exact G.len, fun i' k' h => ?_, fun i' ks' h => ?_, fun k' hk' => ?_, fun k' h => ?_, fun s hs => G.nameOk s (I.mem_names.mp hs), ?_, ?_, ?_, ?_⟩
  · obtain ⟨i, k, _, hk, _, e, _⟩ := kin i' k' h
    rw [I.len, ← e]
    exact I.lt k hk
  · obtain ⟨i, hi, e⟩ := I.onto i' (by rw [← I.len]; exact (List.getElem?_eq_some_iff.mp h).1)
    subst e
    have hk := kn (π i)
    rw [kidsAt_some h] at hk
    obtain ⟨r, er⟩ := row_ex hi
    cases r with
    | leaf s => rw [I.leaf i s er] at h; cases h
    | join k => rw [I.join i k er] at h; cases h
    | fork ks =>
      obtain ⟨ks2, e2, p⟩ := I.fork i ks er
      rw [e2] at h
      cases h
      exact ⟨by rw [p.length_eq, List.length_map]; exact (G.two i ks er).1, hk⟩
  · obtain ⟨k, hk, e⟩ := I.onto k' (by rw [← I.len]; exact hk')
    subst e
    have e1 : (ways N' (π k)).length = (ways N k).length := by
      refine len_of I (G.ways_nodup k) ?_ (fun x hx => kidsAt_lt (mem_ways.mp hx)) (fun x hx => by rw [← I.len]; exact kidsAt_lt (mem_ways.mp hx)) fun x hx => ?_
      · rw [ways_eq kn]
        exact List.Nodup.sublist List.filter_sublist List.nodup_range
      · rw [mem_ways, mem_ways]
        exact kp x k hx hk
    rw [e1, G.led k hk]
    unfold dueWays
    by_cases h0 : k = 0
    · subst h0
      rw [if_pos rfl, if_pos I.zero]
    · have h1 : ¬ π k = 0 := fun z => h0 (I.inj k 0 hk G.pos (by rw [z, I.zero]))
      rw [if_neg h0, if_neg h1]
      obtain ⟨r, er⟩ := row_ex hk
      rw [er]
      cases r with
      | leaf s => rw [I.leaf k s er]
      | fork ks => obtain ⟨_, e2, _⟩ := I.fork k ks er; rw [e2]
      | join j => rw [I.join k j er]
  · obtain ⟨r, er⟩ := row_ex G.pos
    cases r with
    | leaf s => have := I.leaf 0 s er; rw [I.zero, h] at this; cases this
    | fork ks => obtain ⟨_, e2, _⟩ := I.fork 0 ks er; rw [I.zero, h] at e2; cases e2
    | join j => exact G.root j er
  · refine names_nodup_of fun i' j' s h1 h2 => ?_
    obtain ⟨i, hi, e⟩ := I.onto i' (by rw [← I.len]; exact (List.getElem?_eq_some_iff.mp h1).1)
    obtain ⟨j, hj, e'⟩ := I.onto j' (by rw [← I.len]; exact (List.getElem?_eq_some_iff.mp h2).1)
    subst e e'
    rw [names_inj G.nd i j s (I.row hi s h1) (I.row hj s h2)]
  · have z := nodup_le (l := JT.names N') (m := JT.names N) ?_ fun s hs => I.mem_names.mp hs
    · exact Nat.le_trans z G.few
    · refine names_nodup_of fun i' j' s h1 h2 => ?_
      obtain ⟨i, hi, e⟩ := I.onto i' (by rw [← I.len]; exact (List.getElem?_eq_some_iff.mp h1).1)
      obtain ⟨j, hj, e'⟩ := I.onto j' (by rw [← I.len]; exact (List.getElem?_eq_some_iff.mp h2).1)
      subst e e'
      rw [names_inj G.nd i j s (I.row hi s h1) (I.row hj s h2)]
  · rw [len_of I (joins_nodup N) (joins_nodup N') joins_lt (fun x hx => by rw [← I.len]; exact joins_lt x hx) fun x hx => I.isJoin hx]
    exact G.jfew
  · obtain ⟨ρ, hρ⟩ := G.rank
    have inv : ∀ j, ∃ i, j < N.length → i < N.length ∧ π i = j := fun j => by
      by_cases h : j < N.length
      · obtain ⟨i, hi, e⟩ := I.onto j h
        exact ⟨i, fun _ => ⟨hi, e⟩⟩
      · exact ⟨0, fun z => absurd z h⟩
    let σ : Nat → Nat := fun j => (inv j).choose
    have hσ : ∀ i, i < N.length → σ (π i) = i := fun i hi => by
      obtain ⟨h1, h2⟩ := (inv (π i)).choose_spec (I.lt i hi)
      exact I.inj _ _ h1 hi h2
    refine ⟨fun j => ρ (σ j), fun i' k' h => ?_⟩
    obtain ⟨i, k, hi, hk, e1, e2, hm⟩ := kin i' k' h
    subst e1 e2
    show ρ (σ (π i)) < ρ (σ (π k))
    rw [hσ i hi, hσ k hk]
    exact hρ i k hm
theorem Iso.comp {N'' : Net} {τ : Nat → Nat} (I : Iso N N' π) (J : Iso N' N'' τ) : Iso N N'' (fun i => τ (π i)) := by
  refine ⟨by rw [J.len, I.len], fun i hi => ?_, fun i j hi hj e => ?_, by show τ (π 0) = 0; rw [I.zero, J.zero], fun i s h => J.leaf _ s (I.leaf i s h), fun i ks h => ?_, fun i k h => J.join _ _ (I.join i k h)⟩
  · have := J.lt (π i) (by rw [I.len]; exact I.lt i hi)
    rw [I.len] at this
    exact this
  · exact I.inj i j hi hj (J.inj _ _ (by rw [I.len]; exact I.lt i hi) (by rw [I.len]; exact I.lt j hj) e)
  · obtain ⟨ks', e1, p1⟩ := I.fork i ks h
    obtain ⟨ks'', e2, p2⟩ := J.fork _ ks' e1
    refine ⟨ks'', e2, p2.trans ?_⟩
    have := p1.map τ
    rw [List.map_map] at this
    exact this
end
end JT
/-! R5: depths. -/
namespace JT
open PySem PySem.Spec PyProof.Rows L2 PySem.W
abbrev s_depths : Stmt := topS 47
abbrev n_depths : List Str := ["kids", "first", "ways", "found", "free", "at", "kid"]
theorem sc_depths : FnScope n_depths ["kids", "first"] (defScope s_depths) :=
  ⟨rfl, rfl, rfl, by decide +kernel, rfl, by decide +kernel, by decide +kernel⟩
section
variable {P : Program} {w : World} {K : PySem.W.Frag} {mg : Str → Option Value} {base : Heap}
/-- at p a dict of numbers below n that tells F -/
def DictN (H : Hp) (p : Addr) (n : Nat) (F : Nat → Option Nat) : Prop := ∃ kvs : List (Key × V), H p = some (.dK kvs) ∧ (kvs.map (·.1)).Nodup ∧ (∀ k ∈ kvs.map (·.1), ∃ i, i < n ∧ k = nk i) ∧ ∀ i, valV kvs (nk i) = (F i).map natV
theorem keysN_len {kvs : List (Key × V)} {n : Nat} (nd : (kvs.map (·.1)).Nodup) (h : ∀ k ∈ kvs.map (·.1), ∃ i, i < n ∧ k = nk i) : kvs.length ≤ n := by
  have z := nodup_le (m := (List.range n).map nk) nd fun k hk => by
    obtain ⟨a, ha, e⟩ := h k hk
    rw [e]
    exact List.mem_map_of_mem (List.mem_range.mpr ha)
  rw [List.length_map, List.length_map, List.length_range] at z
  exact z
theorem DictN.frame {H H' : Hp} {p : Addr} {n : Nat} {F : Nat → Option Nat} (h : DictN H p n F) (k : ∀ o, H p = some o → H' p = some o) : DictN H' p n F := by
  obtain ⟨kvs, e, r⟩ := h
  exact ⟨kvs, k _ e, r⟩
theorem dictN_put {H : Hp} {p : Addr} {n : Nat} {F : Nat → Option Nat} {kvs : List (Key × V)} {i m : Nat} (nd : (kvs.map (·.1)).Nodup) (hk : ∀ k ∈ kvs.map (·.1), ∃ i, i < n ∧ k = nk i) (hv : ∀ i, valV kvs (nk i) = (F i).map natV) (hi : i < n) :
    DictN (upd H p (.dK (putK kvs (nk i) (natV m)))) p n (fun j => if j = i then some m else F j) := by
  refine ⟨_, upd_same, nd_put _ _ nd, fun k h => ?_, fun j => ?_⟩
  · rcases mem_put.mp h with e | h
    · exact ⟨i, hi, e⟩
    · exact hk k h
  · rw [valV_put]
    by_cases e : j = i
    · rw [if_pos (by rw [e])]
      show some (natV m) = Option.map natV (if j = i then some m else F j)
      rw [if_pos e]
      rfl
    · rw [if_neg (fun z => e (nk_inj z))]
      show _ = Option.map natV (if j = i then some m else F j)
      rw [if_neg e]
      exact hv j
/-- depths found so far: S taken, F free; x's kids done -/
structure Deep (N : Net) (S F : List Nat) (x : Nat) (done : List Nat) (D : Nat → Option Nat) : Prop where
  has : ∀ y, (y ∈ S ++ F ∨ y = x) → ∃ m, D y = some m
  dn : ∀ y ∈ S, ∀ k ∈ kidsAt N y, ∃ a b, D y = some a ∧ D k = some b ∧ a < b
  dx : ∀ k ∈ done, ∃ a b, D x = some a ∧ D k = some b ∧ a < b
  zero : D 0 = some 0
theorem Deep.put {N : Net} {S F F' : List Nat} {x k a c : Nat} {done : List Nat} {D : Nat → Option Nat} (d : Deep N S F x done D) (hx : D x = some a) (hc : a < c) (hm : ∀ b, D k = some b → b ≤ c) (nS : k ∉ S) (nx : k ≠ x) (n0 : k ≠ 0) (hF : ∀ y ∈ F', y ∈ F ∨ y = k) :
    Deep N S F' x (done ++ [k]) (fun j => if j = k then some c else D j) := by
  refine ⟨fun y hy => ?_, fun y hy j hj => ?_, fun j hj => ?_, ?_⟩
  · show ∃ m, (if y = k then some c else D y) = some m
    by_cases e : y = k
    · rw [if_pos e]
      exact ⟨c, rfl⟩
    · rw [if_neg e]
      refine d.has y ?_
      rcases hy with hy | hy
      · rcases List.mem_append.mp hy with h | h
        · exact .inl (List.mem_append_left _ h)
        · rcases hF y h with h | h
          · exact .inl (List.mem_append_right _ h)
          · exact absurd h e
      · exact .inr hy
  · obtain ⟨p, q, e1, e2, l⟩ := d.dn y hy j hj
    have ey : y ≠ k := fun z => nS (by rw [← z]; exact hy)
    show ∃ a b, (if y = k then some c else D y) = some a ∧ (if j = k then some c else D j) = some b ∧ a < b
    rw [if_neg ey]
    by_cases e : j = k
    · subst e
      rw [if_pos rfl]
      have := hm q e2
      exact ⟨p, c, e1, rfl, by omega⟩
    · rw [if_neg e]
      exact ⟨p, q, e1, e2, l⟩
  · show ∃ a b, (if x = k then some c else D x) = some a ∧ (if j = k then some c else D j) = some b ∧ a < b
    rw [if_neg (Ne.symm nx)]
    by_cases e : j = k
    · subst e
      rw [if_pos rfl]
      exact ⟨a, c, hx, rfl, hc⟩
    · rw [if_neg e]
      rcases List.mem_append.mp hj with h | h
      · exact d.dx j h
      · exact absurd (List.mem_singleton.mp h) e
  · show (if 0 = k then some c else D 0) = some 0
    rw [if_neg (Ne.symm n0)]
    exact d.zero
def spDepths : Sp := fun vs H Q _ => ∃ d N ls, vs = [.ref d, natV 0] ∧ KidsD H d N ls ∧ Loose N ∧ ∀ H' p F, Same H H' → H p = none → DictN H' p N.length F → (∀ i, i < N.length → ∃ m, F i = some m) → (∀ i k, k ∈ kidsAt N i → ∃ a b, F i = some a ∧ F k = some b ∧ a < b) → F 0 = some 0 → Q (.ref p) H'
theorem c_depths (T : Top mg) (D : Def K mg "depths" "depths" s_depths) (C_ways_up : Cal P w K mg base 1 "ways_up" spWaysUp) : Cal P w K mg base 2 "depths" spDepths := by
  refine D.cal sc_depths (fun _ _ _ _ _ _ us hl => match us, hl with | [_, _], _ => rfl) (fun vs H Q E h => ?_) fun f cdv A outer s H vs Q E hr hsp => ?_
  · obtain ⟨_, _, _, rfl, _⟩ := h; rfl
  have hu := hu_of hr
  have hu64 := hu64_of hr
  refine ⟨_, (pss_cons (ps_set (i := 2) sc_depths.nd rfl (Or.inl rfl) (pe_f C_ways_up hr rfl (pa_cons (pv 0) pa_nil)))
    (pss_cons (ps_set (i := 3) sc_depths.nd rfl (Or.inl rfl) (pe_disp (pps_cons (pv 1) pe_int pps_nil) (by rfl) (by rfl) (fun z => by cases z) (by decide)))
    (pss_cons (ps_set (i := 4) sc_depths.nd rfl (Or.inl rfl) (pe_lst (pa_cons (pv 1) pa_nil)))
    (pss_cons (ps_while PassesOwn.never (pt_cmpR (ned hu64) (pv 4) (pe_lst pa_nil) (nomark _)) (pss_cons (ps_set (i := 5) sc_depths.nd rfl (Or.inl rfl) (pe_ml0 PySem.F.slot_list_pop PySem.F.type_list_pop mt_pop (pv 4)))
    (pss_one (ps_for PassesOwn.never rfl (pi_listK K (pe_dget hu (pv 0) (pv 5) (fun _ _ => rfl))) (pg_name (i := 6) sc_depths.nd rfl (Or.inl rfl))
    (pss_cons (ps_dput hu (pv 3) (pv 6) (pe_callB (call_max2 rfl) rfl T.max (by decide +kernel) (pa_cons (pe_dget2 hu (pv 3) (pv 6) pe_int ⟨rfl, rfl, rfl, rfl⟩) (pa_cons (pe_op op_add (pe_dget hu (pv 3) (pv 5) (fun _ _ => rfl)) pe_int) pa_nil))) rfl)
    (pss_cons (ps_daug hu (pv 2) (pv 6) pe_int in_sub (fun _ _ _ => rfl))
    (pss_one (ps_if (pt_cmpR op_eq (pe_dget hu (pv 2) (pv 6) (fun _ _ => rfl)) pe_int (nomark _)) (pss_one (ps_expr (pe_ml PySem.F.slot_list_append PySem.F.type_list_append mt_append (pv 4) (pa_cons (pv 6) pa_nil)))) pss_nil))))))))
    (pss_one (ps_ret (pv 3))))))), ?_⟩
  obtain ⟨d, N, ls, rfl, hk, G, q⟩ := hsp
  have h49 := G.len
  refine ⟨_, rfl, d, N, ls, rfl, hk, G, fun H1 p S1 p0 hp => ?_⟩
  refine fun fd hfd => ⟨_, rfl, upd_same, [(nk 0, natV 0)], rfl, by decide, ?_⟩
  rw [upd_upd]
  have fd0 : H fd = none := by
    cases e : H fd with
    | none => rfl
    | some o => rw [S1 _ _ e] at hfd; cases hfd
  have npf : p ≠ fd := fun z => by rw [z, hfd] at hp; cases hp
  refine ⟨_, rfl, small (show 1 ≤ 10000 by decide), fun fl nfl => ?_⟩
  have nfd2 : fl ≠ fd := fun z => by rw [z, upd_same] at nfl; cases nfl
  have fl1 : H1 fl = none := by rw [upd_ne nfd2] at nfl; exact nfl
  have fl0 : H fl = none := by
    cases e : H fl with
    | none => rfl
    | some o => rw [S1 _ _ e] at fl1; cases fl1
  have c0 : Cnt H (upd (upd H1 fd (.dK (mergeK [] [(nk 0, natV 0)]))) fl (.lst [natV 0])) N p fl [0] (pend N []) := by
    refine ⟨Same.trans' S1 (Same.trans' (same_upd hfd) (same_upd nfl)), p0, fl0, (fun z => by rw [z, fl1] at hp; cases hp), ?_, upd_same⟩
    rw [upd_ne (fun z => by rw [z, fl1] at hp; cases hp), upd_ne npf, hp]
    congr 2
    exact numD_congr fun i _ => by rw [pend_nil]
  have d0 : DictN (upd (upd H1 fd (.dK (mergeK [] [(nk 0, natV 0)]))) fl (.lst [natV 0])) fd N.length (fun i => if i = 0 then some 0 else none) := by
    refine ⟨[(nk 0, natV 0)], by rw [upd_ne (Ne.symm nfd2), upd_same]; rfl, by simp, fun k hk => ⟨0, G.pos, by simpa using hk⟩, fun i => ?_⟩
    show valV [(nk 0, natV 0)] (nk i) = Option.map natV (if i = 0 then some 0 else none)
    by_cases e : i = 0
    · subst e
      rw [if_pos rfl]
      exact valV_pos rfl
    · rw [if_neg e, valV_neg (fun z => e (nk_inj z).symm)]
      rfl
  generalize upd (upd H1 fd (.dK (mergeK [] [(nk 0, natV 0)]))) fl (.lst [natV 0]) = H3 at c0 d0 ⊢
  have nflfd : fd ≠ fl := Ne.symm nfd2
  refine ⟨fun m σ H4 => ∃ S F D s5 s6, σ = [some (.ref d), some (natV 0), some (.ref p), some (.ref fd), some (.ref fl), s5, s6] ∧ Taken N S F ∧ Cnt H H4 N p fl F (pend N S) ∧ DictN H4 fd N.length D ∧ Deep N S F 0 [] D ∧ m = N.length - S.length,
    ⟨_, [], [0], _, _, _, rfl, Taken.start G, c0, d0, ⟨fun y hy => ⟨0, ?_⟩, by simp, by simp, rfl⟩, rfl⟩, ?_⟩
  · have e : y = 0 := by simpa using hy
    rw [if_pos e]
  rintro m σ H4 ⟨S, F, Dp, s5, s6, rfl, tk, c4, d4, dp, rfl⟩
  refine ⟨_, rfl, Nat.zero_le _, fun q1 hq1 => ⟨_, _, dq_nats ((same_upd hq1) _ _ c4.free), dq_nil upd_same, shaped_nats _, by decide, ?_⟩⟩
  have c5 : Cnt H (upd H4 q1 (.lst [])) N p fl F (pend N S) := c4.up (same_upd hq1)
  have d5 : DictN (upd H4 q1 (.lst [])) fd N.length Dp := d4.frame fun o e => (same_upd hq1) _ _ e
  generalize upd H4 q1 (.lst []) = H5 at c5 d5 ⊢
  rw [ne_nil_nats]
  refine ⟨_, rfl, ?_⟩
  rcases List.eq_nil_or_concat F with e | ⟨F0, x, e⟩
  · subst e
    refine iteF ?_
    refine ⟨_, rfl, q _ fd Dp c5.same fd0 d5 (fun i hi => dp.has i (.inl (by simpa using tk.all G i hi))) (fun i k hik => dp.dn i (tk.all G i (kidsAt_lt hik)) k hik) dp.zero⟩
  · rw [List.concat_eq_append] at e
    subst e
    have hne : (F0 ++ [x]).isEmpty = false := by cases F0 <;> rfl
    rw [hne]
    refine iteT ?_
    have tg := tk.take G
    have hxn : x < N.length := tk.lt x (by simp)
    obtain ⟨l, el, egl, hl⟩ := hk.at hxn
    have c6 : Cnt H (upd H5 fl (.lst (F0.map natV))) N p fl F0 (pend N S) := c5.putF
    have d6 : DictN (upd H5 fl (.lst (F0.map natV))) fd N.length Dp := d5.frame fun o e => by rw [upd_ne nflfd]; exact e
    have slen := tk.len
    rw [List.length_append] at slen
    have slen : S.length + (F0.length + 1) ≤ N.length := slen
    obtain ⟨ax, hax⟩ := dp.has x (.inl (by simp))
    have dp6 : Deep N S F0 x [] Dp := ⟨fun y hy => dp.has y (by
      rcases hy with h | h
      · rcases List.mem_append.mp h with h | h
        · exact .inl (by simp [h])
        · exact .inl (by simp [h])
      · exact .inl (by simp [h])), dp.dn, by simp, dp.zero⟩
    refine ⟨_, fun σ' H' h => h, ?_⟩
    have hfr : H5 fl = some (.lst (F0.map natV ++ [natV x])) := by
      have z := c5.free
      rw [List.map_append] at z
      exact z
    refine ⟨_, rfl, ⟨fl, _, rfl, hfr⟩, fl, _, natV x, rfl, rfl, hfr, by simp, ?_⟩
    rw [List.dropLast_concat]
    generalize upd H5 fl (.lst (F0.map natV)) = H6 at c6 d6 ⊢
    have hd6 := c6.same _ _ hk.2.1
    have hl6 := c6.same _ _ hl
    refine ⟨_, rfl, _, rfl, d, _, rfl, by
      have z := DGet.k (k := nk x) hd6
      rw [numD_val _ hxn, egl] at z
      exact z, l, rfl, ⟨_, sl_at hl6⟩, ?_⟩
    refine for_gen (n := (kidsAt N x).length) (fun j σ H7 => (∃ s6, σ = [some (.ref d), some (natV 0), some (.ref p), some (.ref fd), some (.ref fl), some (natV x), s6]) ∧ ∃ F w D, Taking N S F x ((kidsAt N x).take j) w ∧ Cnt H H7 N p fl F w ∧ DictN H7 fd N.length D ∧ Deep N S F x ((kidsAt N x).take j) D ∧ D x = some ax)
      ⟨⟨_, rfl⟩, F0, _, Dp, tg, c6, d6, dp6, hax⟩ (fun j σ H7 hj ⟨_, F, w, _, _, c, _⟩ => go_lst (c.same _ _ hl) (by rw [nats_len]; exact hj)) (fun σ H7 ⟨_, F, w, _, _, c, _⟩ => st_lst (c.same _ _ hl) (by rw [nats_len]; exact Nat.le_refl _)) (fun j σ H7 y H8 hj ⟨⟨s6, es⟩, F, w, D7, tj, c7, d7, dp7, hx7⟩ hy => ?_) fun σ H7 ⟨⟨s6, es⟩, F, w, D7, tj, c7, d7, dp7, hx7⟩ => ?_
    · subst es
      obtain ⟨rfl, hy⟩ := hy
      have hy := hy _ (sl_at (c7.same _ _ hl))
      rw [nats_at hj] at hy
      cases hy
      have hkm : (kidsAt N x)[j] ∈ kidsAt N x := List.getElem_mem hj
      have hkj : (kidsAt N x)[j]? = some (kidsAt N x)[j] := List.getElem?_eq_getElem hj
      have hnd : (kidsAt N x)[j] ∉ (kidsAt N x).take j := fun z => by
        obtain ⟨i', hi', ei'⟩ := List.mem_take_iff_getElem.mp z
        have := (List.getElem_inj (G.kids_nodup x)).mp ei'
        omega
      generalize (kidsAt N x)[j] = kd at hkm hkj hnd
      have hlt := G.lt x kd hkm
      obtain ⟨w1, ts⟩ := tj.step G hkm hnd
      have hnot : kd ∉ (S ++ [x]) ++ F := fun z => by
        have := (tj.zero kd hlt).mpr z
        omega
      have nS : kd ∉ S := fun z => hnot (by simp [z])
      have nx : kd ≠ x := fun z => hnot (by simp [z])
      have n0 : kd ≠ 0 := fun z => by
        subst z
        have h0 := G.led 0 G.pos
        have h1 := List.length_eq_zero_iff.mp (h0.trans rfl)
        have h2 := mem_ways.mpr hkm
        rw [h1] at h2
        cases h2
      obtain ⟨kvs, f1, f2, f3, f4⟩ := d7
      -- the greater of both
      obtain ⟨c, hc1, hc2, hc3⟩ : ∃ c : Nat, ax < c ∧ (∀ b, D7 kd = some b → b ≤ c) ∧ ∃ jj : Int, (valV kvs (nk kd)).getD (.int 0) = .int jj ∧ (if (ax : Int) + 1 > jj then (ax : Int) + 1 else jj) = (c : Int) := by
        cases e : D7 kd with
        | none =>
          refine ⟨ax + 1, by omega, (fun b h => by cases h), 0, by rw [f4, e]; rfl, ?_⟩
          rw [if_pos (by omega)]
          rfl
        | some b =>
          refine ⟨max (ax + 1) b, by omega, (fun b' h => by cases h; omega), b, by rw [f4, e]; rfl, ?_⟩
          split <;> omega
      obtain ⟨jj, hj1, hj2⟩ := hc3
      refine ⟨_, rfl, fd, rfl, .inl ⟨_, .inl f1⟩, _, rfl, _, DGet.k (k := nk kd) f1, ?_⟩
      rw [hj1]
      refine ⟨_, rfl, _, rfl, fd, _, rfl, by
        have z := DGet.k (k := nk x) f1
        rw [f4, hx7] at z
        exact z, (ax : Int), 1, rfl, rfl, jj, (ax : Int) + 1, rfl, ?_⟩
      rw [hj2]
      have hkl := keysN_len f2 f3
      refine ⟨_, rfl, _, rfl, fd, _, rfl, DPut.k (k := nk kd) f1 (smallT (by omega)), ?_⟩
      have fdne : fd ≠ p := Ne.symm npf
      have c71 : Cnt H (upd H8 fd (.dK (putK kvs (nk kd) (.int (c : Int))))) N p fl F w := ⟨fun b o e => by rw [upd_ne (ne_of_none e fd0)]; exact c7.same _ _ e, c7.p0, c7.f0, c7.ne, by rw [upd_ne npf]; exact c7.ways, by rw [upd_ne nfd2]; exact c7.free⟩
      have d71 : DictN (upd H8 fd (.dK (putK kvs (nk kd) (.int (c : Int))))) fd N.length (fun j => if j = kd then some c else D7 j) := dictN_put f2 f3 f4 hlt
      generalize upd H8 fd (.dK (putK kvs (nk kd) (.int (c : Int)))) = H81 at c71 d71 ⊢
      have hx71 : (if x = kd then some c else D7 x) = some ax := by rw [if_neg (Ne.symm nx)]; exact hx7
      have c8 : Cnt H (upd H81 p (.dK (numD (fun k => natV (if k = kd then w kd - 1 else w k)) N.length))) N p fl F (fun k => if k = kd then w kd - 1 else w k) := c71.putW
      have d8 : DictN (upd H81 p (.dK (numD (fun k => natV (if k = kd then w kd - 1 else w k)) N.length))) fd N.length (fun j => if j = kd then some c else D7 j) := d71.frame fun o e => by rw [upd_ne fdne]; exact e
      refine ⟨_, rfl, _, rfl, p, _, rfl, by
        have z := DGet.k (k := nk kd) c71.ways
        rw [numD_val _ hlt] at z
        exact z, (w kd : Int), 1, rfl, rfl, _, DPut.k (k := nk kd) c71.ways (by rw [numD_len]; exact smallT (by omega)), ?_⟩
      have ep : putK (numD (fun k => natV (w k)) N.length) (nk kd) (V.int ((w kd : Int) - 1)) = numD (fun k => natV (if k = kd then w kd - 1 else w k)) N.length := by
        rw [numD_put _ _ hlt]
        refine numD_congr fun i _ => ?_
        by_cases e : i = kd
        · rw [if_pos e, if_pos e]
          unfold natV
          congr 1
          omega
        · rw [if_neg e, if_neg e]
      rw [ep]
      generalize upd H81 p (.dK (numD (fun k => natV (if k = kd then w kd - 1 else w k)) N.length)) = H9 at c8 d8 ⊢
      refine ⟨_, rfl, _, rfl, p, _, rfl, by
        have z := DGet.k (k := nk kd) c8.ways
        rw [numD_val _ hlt] at z
        exact z, rfl, _, rfl, ?_⟩
      have e0 : decide (natV (if kd = kd then w kd - 1 else w kd) = V.int 0) = decide (w kd - 1 = 0) := by
        rw [if_pos rfl]
        unfold natV
        have : (V.int ((w kd - 1 : Nat) : Int) = V.int 0) ↔ (w kd - 1 = 0) := ⟨fun z => by injection z with z; omega, fun z => by rw [z]; rfl⟩
        simp only [this]
      rw [e0]
      have etk : (kidsAt N x).take (j + 1) = (kidsAt N x).take j ++ [kd] := by
        rw [List.take_add_one, hkj]
        rfl
      have flen : F.length ≤ N.length := by
        have z := nodup_le (m := List.range N.length) tj.nd fun k hk => List.mem_range.mpr (tj.lt k hk)
        rw [List.length_range, List.length_append] at z
        omega
      refine ite2 (fun h => ?_) fun h => ?_
      · have h := of_decide_eq_true h
        rw [if_pos h] at ts
        refine ⟨_, rfl, ⟨fl, _, rfl, c8.free⟩, _, rfl, fl, _, natV kd, rfl, rfl, c8.free, by rw [nats_len]; exact smallT (by omega), ⟨_, rfl⟩, F ++ [kd], _, _, by rw [etk]; exact ts, ?_, d8.frame fun o e => by rw [upd_ne nflfd]; exact e, by rw [etk]; exact dp7.put hx7 hc1 hc2 nS nx n0 fun y hy => by simpa using hy, hx71⟩
        have z := c8.putF (F' := F ++ [kd])
        rw [List.map_append] at z
        exact z
      · rw [if_neg (fun z => h (decide_eq_true z))] at ts
        exact ⟨⟨_, rfl⟩, F, _, _, by rw [etk]; exact ts, c8, d8, by rw [etk]; exact dp7.put hx7 hc1 hc2 nS nx n0 fun y hy => .inl hy, hx71⟩
    · subst es
      rw [List.take_length] at tj dp7
      obtain ⟨tk2, hw⟩ := tj.done fun k hk => hk
      refine ⟨N.length - (S ++ [x]).length, by rw [List.length_append]; simp; omega, S ++ [x], F, D7, _, _, rfl, tk2, ⟨c7.same, c7.p0, c7.f0, c7.ne, ?_, c7.free⟩, d7, ⟨fun y hy => ?_, fun y hy k hk => ?_, by simp, dp7.zero⟩, rfl⟩
      · rw [c7.ways]
        congr 2
        exact numD_congr fun i hi => by rw [hw i hi]
      · rcases hy with hy | hy
        · rcases List.mem_append.mp hy with h | h
          · rcases List.mem_append.mp h with h | h
            · exact dp7.has y (.inl (by simp [h]))
            · exact dp7.has y (.inr (by simpa using h))
          · exact dp7.has y (.inl (by simp [h]))
        · subst hy
          exact ⟨0, dp7.zero⟩
      · rcases List.mem_append.mp hy with h | h
        · exact dp7.dn y h k hk
        · rw [List.mem_singleton.mp h] at hk ⊢
          exact dp7.dx k hk
end
end JT
/-! Mat6: rows numbered anew by an order. -/
namespace JT
open PySem PySem.Spec PyProof.Rows L2 PySem.W
/-- o: the rows, the less deep ones first -/
structure Order (N : Net) (D : Nat → Nat) (o : List Nat) : Prop where
  perm : o.Perm (List.range N.length)
  rise : o.Pairwise fun a b => D a ≤ D b
  deep : ∀ i k, k ∈ kidsAt N i → D i < D k
  zero : D 0 = 0
/-- the place of a in o -/
def pos (o : List Nat) (a : Nat) : Nat := o.idxOf a
def RowNum (π : Nat → Nat) : Row → Row → Prop
  | .leaf s, .leaf s' => s' = s
  | .fork ks, .fork ks' => ks'.Perm (ks.map π) ∧ ks'.Pairwise (· < ·)
  | .join k, .join k' => k' = π k
  | _, _ => False
section
variable {N : Net} {D : Nat → Nat} {o : List Nat}
theorem Order.len (O : Order N D o) : o.length = N.length := by rw [O.perm.length_eq, List.length_range]
theorem Order.nd (O : Order N D o) : o.Nodup := O.perm.nodup_iff.mpr List.nodup_range
theorem Order.mem (O : Order N D o) {a : Nat} : a ∈ o ↔ a < N.length := by rw [O.perm.mem_iff, List.mem_range]
theorem Order.pos_lt (O : Order N D o) {a : Nat} (h : a < N.length) : pos o a < N.length := by
  rw [← O.len]
  exact List.idxOf_lt_length_iff.mpr (O.mem.mpr h)
theorem Order.at_pos (O : Order N D o) {a : Nat} (h : a < N.length) : o[pos o a]? = some a := by
  have hl : pos o a < o.length := by rw [O.len]; exact O.pos_lt h
  rw [List.getElem?_eq_getElem hl]
  congr 1
  exact List.getElem_idxOf hl
theorem Order.pos_at (O : Order N D o) {i a : Nat} (h : o[i]? = some a) : pos o a = i := by
  have hi := (List.getElem?_eq_some_iff.mp h).1
  have ha : a < N.length := O.mem.mp (List.mem_of_getElem? h)
  have h1 := O.at_pos ha
  exact (List.getElem?_inj (by rw [O.len]; exact O.pos_lt ha) O.nd).mp (h1.trans h.symm)
theorem Order.lt (O : Order N D o) {a b : Nat} (ha : a < N.length) (hb : b < N.length) (h : D a < D b) : pos o a < pos o b := by
  rcases Nat.lt_trichotomy (pos o a) (pos o b) with q | q | q
  · exact q
  · have h1 := O.at_pos ha
    have h2 := O.at_pos hb
    rw [q, h2] at h1
    cases h1
    omega
  · have h1 := O.at_pos ha
    have h2 := O.at_pos hb
    have la : pos o a < o.length := by rw [O.len]; exact O.pos_lt ha
    have lb : pos o b < o.length := by rw [O.len]; exact O.pos_lt hb
    have z := List.pairwise_iff_getElem.mp O.rise (pos o b) (pos o a) lb la q
    rw [List.getElem?_eq_getElem la] at h1
    rw [List.getElem?_eq_getElem lb] at h2
    injection h1 with h1
    injection h2 with h2
    rw [h1, h2] at z
    omega
theorem Order.pos_zero (O : Order N D o) (G : Loose N) : pos o 0 = 0 := by
  refine Classical.byContradiction fun h => ?_
  have h0 : 0 < N.length := G.pos
  have l0 : 0 < o.length := by rw [O.len]; exact h0
  have e : o[0]? = some o[0] := List.getElem?_eq_getElem l0
  have hb : o[0] < N.length := O.mem.mp (List.getElem_mem l0)
  have hp := O.pos_at e
  have hne : o[0] ≠ 0 := fun z => by rw [z] at hp; exact h hp
  have hl := G.led _ hb
  have hw := due_pos (N := N) (show 0 < o[0] by omega)
  obtain ⟨i, hi⟩ := List.exists_mem_of_length_pos (show 0 < (ways N o[0]).length by omega)
  have hd := O.deep i _ (mem_ways.mp hi)
  have := O.lt h0 hb (by rw [O.zero]; omega)
  omega
/-- the rows of N' are the rows of N in the order o, numbered anew -/
structure Anew (N N' : Net) (o : List Nat) : Prop where
  len : N'.length = N.length
  row : ∀ (i a : Nat) (r : Row), o[i]? = some a → N[a]? = some r → ∃ r', N'[i]? = some r' ∧ RowNum (pos o) r r'
theorem Anew.iso {N' : Net} (A : Anew N N' o) (O : Order N D o) (G : Loose N) : Iso N N' (pos o) := by
  refine ⟨A.len, fun i hi => O.pos_lt hi, fun i j hi hj e => ?_, O.pos_zero G, fun i s h => ?_, fun i ks h => ?_, fun i k h => ?_⟩
  · have h1 := O.at_pos hi
    rw [e, O.at_pos hj] at h1
    cases h1
    rfl
  · obtain ⟨r', e, q⟩ := A.row _ i _ (O.at_pos (List.getElem?_eq_some_iff.mp h).1) h
    cases r' with
    | leaf z =>
      have q : z = s := q
      rw [q] at e
      exact e
    | fork ks => exact q.elim
    | join k => exact q.elim
  · obtain ⟨r', e, q⟩ := A.row _ i _ (O.at_pos (List.getElem?_eq_some_iff.mp h).1) h
    cases r' with
    | leaf z => exact q.elim
    | fork ks' => exact ⟨ks', e, q.1⟩
    | join k => exact q.elim
  · obtain ⟨r', e, q⟩ := A.row _ i _ (O.at_pos (List.getElem?_eq_some_iff.mp h).1) h
    cases r' with
    | leaf z => exact q.elim
    | fork ks => exact q.elim
    | join z =>
      have q : z = pos o k := q
      rw [q] at e
      exact e
theorem Anew.good {N' : Net} (A : Anew N N' o) (O : Order N D o) (G : Loose N) : Good N' := by
  have I := A.iso O G
  refine { toLoose := I.loose G, down := fun i' k' h => ?_, rise := fun i' ks' h => ?_ }
  · obtain ⟨i, hi, e⟩ := I.onto i' (by rw [← I.len]; exact kidsAt_lt h)
    subst e
    obtain ⟨k, hk, ek⟩ := List.mem_map.mp ((I.kids hi).mem_iff.mp h)
    subst ek
    exact O.lt hi (G.lt i k hk) (O.deep i k hk)
  · obtain ⟨i, hi, e⟩ := I.onto i' (by rw [← I.len]; exact (List.getElem?_eq_some_iff.mp h).1)
    subst e
    obtain ⟨r, er⟩ := row_ex hi
    obtain ⟨r', e', q⟩ := A.row _ i _ (O.at_pos hi) er
    rw [h] at e'
    cases e'
    cases r with
    | leaf s => exact q.elim
    | fork ks => exact q.2
    | join k => exact q.elim
end
end JT
/-! RuLam: sorted of a dict by a lambda of one parameter that reads captured names. -/
namespace JT
open PySem PySem.Spec PyProof.Rows L2 PySem.W LamX
/-- one parameter a, captured names, globals -/
structure LamS1 (sc scope : Scope) (a : Str) : Prop where
  kind : scope.kind = .function
  co : scope.isCoroutine = false
  gen : scope.isGenerator = false
  par : scope.names.lookup a = some .local
  nocell : ∀ y ∈ scope.names, y.2 ≠ .cell
  own : ∀ y, scope.names.lookup y = some .local → y = a
  free : ∀ y ∈ scope.names, y.2 = .free → sc.names.lookup y.1 = some .cell ∨ sc.names.lookup y.1 = some .free
theorem LamS1.has {X : Cx} {scope : Scope} {a : Str} (L : LamS1 X.env.scope scope a) (ok : X.Ok) : ∀ y ∈ scope.names, y.2 = .free → ∃ c, X.env.cells.lookup y.1 = some c := fun y hy e => by
  rcases L.free y hy e with k | k
  · exact ok.has _ (.inl k)
  · exact ok.has _ (.inr k)
theorem noCX {P : Program} {w : World} {outer : List Env} {H : Hp} {s s' : Shared} {u : Value} (z : L2.CX P w outer H s E0 u s') : False := by
  obtain ⟨_, _, _, _, _, _, _, _, _, _, _, _, z⟩ := z
  exact z.elim
section
variable {X : Cx} {pins : List (Addr × Obj)} {σ : L2.St} {H : Hp} {s : Shared}
theorem lam1_start {A : Around} {outer : List Env} {E : XK} {scope : Scope} {a : Str} {i : Nat} {x : V} {u : Value} {f c' : Addr} {h₁ : Heap} {tk : Nat} (I : Inv X pins σ H s) (L : LamS1 X.env.scope scope a) (e0 : Env0 X.prog X.w X.K X.mg X.base A outer s H) (hd : A.handled = none)
    (hN : X.N.Nodup) (hi : X.N[i]? = some a) (rx : RelV x u)
    (hns : h₁.Ns s.heap.objs.size fun y => ([(a, u)] : List (Str × Value)).reverse.lookup y) (kp : ∀ b o, s.heap.get? b = some o → h₁.get? b = some o) :
    Inv (lamCx X A outer s H E scope f c') [] (σ.set i (some x)) H { s with heap := h₁, toks := tk } := by
  have hfree := L.has I.ok
  have cm : ∀ {y c}, (cloFrom X.env.cells scope.names []).lookup y = some c → X.env.cells.lookup y = some c := fun {y c} e => by
    rcases cloFrom_mem (PySem.mem_of_lookup e) with hm | ⟨h1, h2⟩
    · cases hm
    · obtain ⟨c1, hc⟩ := hfree _ h1 rfl
      have hc : X.env.cells.lookup y = some c1 := hc
      have e2 : c = c1 := by
        rw [h2, hc] <;> rfl
      rw [e2]
      exact hc
  have look : ∀ {y}, scope.names.lookup y = some .free → ∃ c, (cloFrom X.env.cells scope.names []).lookup y = some c := fun {y} hl => by
    have hy : (y, NameKind.free) ∈ scope.names := PySem.mem_of_lookup hl
    exact mem_lookup (cloFrom_has (cells := X.env.cells) (acc := []) hy)
  have cellK : ∀ {c : Addr} {v : Option Value}, s.heap.IsCell c v → h₁.IsCell c v := fun {c v} ⟨o, ho, hd⟩ => ⟨_, kp _ _ ho, hd⟩
  have noA : ∀ b : Addr, b ∉ (lamCx X A outer s H E scope f c').ex := fun b z => absurd (show b ∈ ([] : List Addr) from z) (by simp)
  refine ⟨⟨e0.mod, L.kind, rfl, rfl, Nat.le_refl _, fun y z c e1 e2 => I.ok.inj y z c (cm e1) (cm e2), fun y hy => ?_, fun y c z _ => ?_, fun _ => hd, Around.frames_deeper e0.frames, .inr ⟨rfl, rfl⟩, fun b z => absurd z (noA b), e0.bs, e0.bsz, fun b _ _ => noA b,
      fun b z => absurd z (noA b), e0.funs, e0.frf⟩,
    rfl, e0.bare, Un.kept kp, ⟨_, hns, fun j y v e1 e2 e3 => ?_⟩, fun y c e => ?_, e0.hok.fresh (Nat.le_refl _), fun y c e => I.freeC y c (cm e), fun q hq => absurd (show q ∈ ([] : List (Addr × Obj)) ++ [] from hq) (by simp), e0.hok.kept kp, by rw [List.length_set]; exact I.len⟩
  · have hy : scope.names.lookup y = some .cell ∨ scope.names.lookup y = some .free := hy
    rcases hy with hy | hy
    · exact absurd rfl (L.nocell _ (PySem.mem_of_lookup hy))
    · exact look hy
  · have z : false = true := z
    cases z
  · have e3 : Vis scope y := e3
    have e1 : X.N[j]? = some y := e1
    rcases e3 with k | k | k
    · have ey := L.own y k
      subst ey
      have ej : j = i := nodup_ix hN e1 hi
      subst ej
      have hlt : j < σ.length := by rw [I.len]; exact (List.getElem?_eq_some_iff.mp e1).1
      rw [List.getElem?_set, if_pos rfl, if_pos hlt] at e2
      cases e2
      exact ⟨u, rx, .inl ⟨k, by simp⟩⟩
    · exact absurd rfl (L.nocell _ (PySem.mem_of_lookup k))
    · have hne : j ≠ i := fun z => by
        subst z
        rw [hi] at e1
        cases e1
        rw [L.par] at k
        cases k
      rw [List.getElem?_set, if_neg (Ne.symm hne)] at e2
      obtain ⟨m, hn, hl⟩ := I.loc
      have hvis : Vis X.env.scope y := (L.free _ (PySem.mem_of_lookup k) rfl).elim (fun k => .inr (.inl k)) (fun k => .inr (.inr k))
      obtain ⟨w', r, q⟩ := hl j y v e1 e2 hvis
      obtain ⟨c2, h2⟩ := look k
      refine ⟨w', r, .inr ⟨.inr k, c2, h2, ?_⟩⟩
      have c1 := cm h2
      rcases q with ⟨k', _⟩ | ⟨_, c3, e', z⟩
      · have k' : X.env.scope.names.lookup y = some .local := k'
        rcases L.free _ (PySem.mem_of_lookup k) rfl with k2 | k2 <;> rw [show X.env.scope.names.lookup y = _ from k2] at k' <;> cases k'
      · rw [c1] at e'
        cases e'
        exact cellK z
  · obtain ⟨w', z⟩ := I.cell y c (cm e)
    exact ⟨w', cellK z⟩
/-- a call of the lambda -/
theorem lam_run {A : Around} {scope : Scope} {a : Str} {i : Nat} {x : V} {u : Value} {f c' : Addr} {params : Arguments} {body : Expr} {pm ctv : Value} {k : Nat} {tb : TE} {Q : VK} {E' : Value → Shared → Prop} (I : Inv X pins σ H s) (L : LamS1 X.env.scope scope a)
    (hN : X.N.Nodup) (hi : X.N[i]? = some a) (rx : RelV x u) (hr : Room (k + 1) A) (hfr : A.frames = some X.stack)
    (hf : s.heap.get? f = some (PySem.W.kla_obj "<lambda>" (X.env.qual ++ "<lambda>") params body scope (cloFrom X.env.cells scope.names []) pm c' ctv)) (hc : H c' = some (CodeO c' (X.env.qual ++ "<lambda>")))
    (hbind : bindArgs (PySem.W.kla_fn "<lambda>" (X.env.qual ++ "<lambda>") params body scope (cloFrom X.env.cells scope.names []) pm (.ref c') ctv) ⟨[u], []⟩ = pure [(a, u)])
    (hbody : Room k (A.deeper (lamEnv X scope s.heap.objs.size f c')) → PE (lamCx X A X.stack s H E0 scope f c') body tb) (ht : tb (σ.set i (some x)) H Q) :
    wpAny (model X.prog X.w) A (call (.ref f) [u]) (EP X pins σ Q) E' s := by
  obtain ⟨⟨oc, vs, t, hoc, hdc, hvc⟩, _, _⟩ := I.hok c' _ hc
  have e0 : Env0 X.prog X.w X.K X.mg X.base A X.stack s H := ⟨hfr, I.env0.mod, I.env0.bs, I.env0.bsz, I.env0.funs, I.env0.frf, I.env0.hok, I.env0.bare⟩
  have rc : codeAny (model X.prog X.w) A (.call (.ref f) ⟨[u], []⟩) (fun r s' => match r with | .ok (.ret v) => CE X.stack X.prog X.w H s Q v s' | _ => False) s := by
    refine PySem.W.kla_callFunE hr.depth hf rfl L.co L.gen rfl ⟨c', oc, vs, t, rfl, hoc, hdc, hvc⟩ ?_
    rw [hbind]
    refine wpAny_pure (wpAny_newFunctionEnv L.nocell (fun y hy => by rw [List.mem_singleton.mp hy]; exact L.par) (fun h₁ hns hsb => ⟨I.nolimit.fresh _ hsb, ?_⟩) L.kind)
    show codeAny _ _ (.expr body (lamEnv X scope s.heap.objs.size f c')) _ _
    have kp : ∀ b o, s.heap.get? b = some o → h₁.get? b = some o := fun b o e => hsb.extBut b o (Nat.ne_of_lt (Heap.lt_size e)) (Heap.get?_push_of_some _ e)
    have J : Inv (lamCx X A X.stack s H E0 scope f c') [] (σ.set i (some x)) H { s with heap := h₁, toks := s.toks + ([(a, u)] : List (Str × Value)).length } :=
      lam1_start I L e0 hr.hd hN hi rx hns kp
    refine PySem.W.kla_codeExpr (wpAny_mono ((hbody (hr.deeper _)).run [] _ _ H Q J ht) (fun v s' hq => ?_) fun e s' hq => ?_)
    · obtain ⟨w', H', J', rv, q⟩ := hq
      exact ⟨w', H', J'.os, J'.bare, J'.base, J'.hok, rv, q⟩
    · exact wpAny_mono hq (fun _ s'' z => (noCX z).elim) fun _ s'' z => (noCX z).elim
  refine wpAny_call (codeAny_mono rc fun r s' hq => ?_)
  cases r with
  | error e => exact False.elim hq
  | ok fl =>
    cases fl with
    | ret u => exact I.after hq
    | next => exact False.elim hq
    | brk => exact False.elim hq
    | cont => exact False.elim hq
end
/-- sorted(e, key=lambda a: body), e a dict with ints as keys -/
def tSortKL (T : List (Addr × Str)) (i : Nat) (te t : TE) : TE := fun σ H Q => te σ H fun x H1 => ∃ (d : Addr) (kvs : List (Key × V)) (ns : List Int) (key : V → PyData), x = .ref d ∧ Rd H1 d (.dK kvs) ∧ kvs.map (·.1) = ns.map Sum.inl ∧ ns.length ≤ 10000 ∧ Tabs T H1 ∧
  AllAlike ((ns.map V.int).map key) ∧ Sortable ((ns.map V.int).map key) ∧ (∀ x ∈ ns.map V.int, (key x).depth ≤ 30) ∧
  (∀ x ∈ ns.map V.int, ∀ H2, ExtN H1 H2 → t (σ.set i (some x)) H2 fun y H3 => Same H2 H3 ∧ KeyD H3 y (key x)) ∧
  ∀ p H', ExtN H1 H' → Tabs T H' → H' p = some (.lst ((ns.map V.int).mergeSort (dataLe false key))) → Q (.ref p) H'
section
variable {X : Cx}
theorem pe_sortedKL {T : List (Addr × Str)} {c P : Addr} {a : Str} {i k : Nat} {params : Arguments} {body : Expr} {scope : Scope} {p lpos pos kpos : Pos} {e : Expr} {te t : TE} (hr : Room (k + 3) X.A) (hg : Gl X "sorted") (hm : X.mg "sorted" = none) (he : PE X e te)
    (TB : TabB X.base X.mg c P) (hcode : X.env.code = .ref c) (hmT : (P, X.env.qual ++ "<lambda>") ∈ T) (hu : ∀ p ∈ T, p.1 = P → p.2 = X.env.qual ++ "<lambda>") (L : LamS1 X.env.scope scope a) (hN : X.N.Nodup) (hi : X.N[i]? = some a) (hcalm : X.calm = true) (hdef : defaultsOf params X.env = ([], []))
    (hbind : ∀ (q : Str) (cl : List (Str × Addr)) (pm cv ctv u : Value), bindArgs (PySem.W.kla_fn "<lambda>" q params body scope cl pm cv ctv) ⟨[u], []⟩ = pure [(a, u)])
    (hbody : ∀ (A : Around) (s : Shared) (H : Hp) (f c' : Addr), Room k (A.deeper (lamEnv X scope s.heap.objs.size f c')) → PE (lamCx X A X.stack s H E0 scope f c') body t)
    (hs0 : starEach [e] X.env = (false, eval e X.env) :: starEach [] X.env := by rfl) (hs : backTo pos (starEach [e] X.env) = (false, eval e X.env) :: backTo pos (starEach [] X.env) := by rfl) (hpl : (backTo pos (starEach [e] X.env)).any (·.1) = false := by rfl) :
    PE X (.Call (.Name "sorted" p) [e] [⟨some "key", .Lambda params body scope lpos, kpos⟩] pos) (tSortKL T i te t) := by
  refine ⟨fun pins s σ H Q I h => ?_⟩
  refine wpAny_Call_Name_kw (ld_blt I hg hm (show bootBuiltins "sorted" = some (.builtin "sorted") by decide +kernel) ?_)
  have pa : PA X [e] (tCons te tNil) := pa_cons he pa_nil hs0
  refine PyProof.Rows.callWith_kw (thn (pa.run pos pins s σ H (one _) I h) fun us s1 ⟨vs, H1, I1, r1, q1⟩ => ?_) hs hpl rfl rfl
  obtain ⟨x, ex, q1⟩ := one_of q1
  subst ex
  obtain ⟨d, kvs, ns, key, rfl, hd, hks, hln, hT, hal, hsk, hdp, ht, q⟩ := q1
  obtain rfl := Vals.ref1 r1
  show wpAny _ _ (evalAll ((do let v ← eval (.Lambda params body scope lpos) X.env; standAt pos; pure v) :: [])) _ _ s1
  refine wpAny_evalAll_cons (wpAny_bind (lam_make2 I1 TB hcode hmT hu hT hdef (L.has I1.ok) fun f c' pm' ctv H2 s2 I2 eN T2 hf hfn hfr hco => wpAny_bind (wpAny_standAt (wpAny_pure ?_))))
  refine wpAny_evalAll_nil ?_
  show wpAny _ _ (call (.builtin "sorted") [.ref d] [(Str.ofString "key", .ref f)]) _ _ _
  have hd2 : Rd H2 d (.dK kvs) := by
    rcases hd with hd | ⟨o, hd⟩
    · exact .inl (eN _ _ hd (fun ps z => by cases z))
    · exact .inr ⟨o, eN _ _ hd (fun ps z => by cases z)⟩
  have Ip : Inv X (pins ++ [(f, PySem.W.kla_obj "<lambda>" (X.env.qual ++ "<lambda>") params body scope (cloFrom X.env.cells scope.names []) pm' c' ctv)]) σ H2 s2 := I2.pins_of fun b hb => by
    rcases List.mem_append.mp hb with hb | hb
    · exact I2.pin b (List.mem_append_right _ hb)
    · rw [List.mem_singleton.mp hb]
      refine ⟨hf, hfn, fun z => ?_, fun z => hfr ?_, fun v z => nomatch z⟩
      · obtain ⟨m, ⟨ob, es, ep, ho, hd, _⟩, _⟩ := I2.loc
        rw [show X.env.locals = f from z.symm, hf] at ho
        cases ho
        cases hd
      · rcases I2.ok.stk with e | ⟨e, _⟩
        · rw [e]
          exact z
        · rw [e]
          obtain ⟨v, hv, q⟩ := List.mem_filterMap.mp z
          exact List.mem_filterMap.mpr ⟨v, List.mem_cons_of_mem _ hv, q⟩
  refine thn (sortKey_run (xs := ns.map V.int) (key := key) Ip (fun R hR => ?_) (by rw [List.length_map]; exact small hln) hal hsk (fun d hd2 => ?_) (fun x hx pins' H3 s3 u sm I3 ru => ?_) (fun p H' sm hp hq => q p H' (eN.trans (.of sm)) (T2.ext sm) hq)) fun v s' hq => ?_
  · obtain ⟨z, lo, vs, rel, dd⟩ := dk_rd Ip.hok hd2
    obtain ⟨ep, hat⟩ := dd.dictAt
    have hkeys : vs.map (·.1) = ns.map Sum.inl := rel.keys.symm.trans hks
    have hl : vs.length = ns.length := by
      have e := congrArg List.length hkeys
      rw [List.length_map, List.length_map] at e
      exact e
    refine PySem.W.kdu_collect (A := X.A.in1) (PySem.W.kdl_dict (knd := mixKind X.prog X.w) (kvs := vs) (ep := ep) lo) (Ip.ok.hd hcalm) hat (by rw [hl]; exact small hln) fun h' tk acc hk hacc => hR h' tk _ hk ?_
    have hal' : acc.toList.length = ns.length := by rw [Array.length_toList, hacc.1, hl]
    have hS : IntsAre acc.toList ns := ints_each hal' fun j v e => by
      obtain ⟨k, x, e1, e2⟩ := hacc.2 j v (by rw [← Array.getElem?_toList]; exact e)
      have e3 : (vs.map (·.1))[j]? = some k := by rw [List.getElem?_map, e1]; rfl
      rw [hkeys, List.getElem?_map] at e3
      cases e4 : ns[j]? with
      | none => rw [e4] at e3; cases e3
      | some y =>
        rw [e4] at e3
        have e5 : Sum.inl y = k := Option.some.inj e3
        subst e5
        rcases keyIs_shape (show keyIs (Sum.inl y) v = true from e2) with ⟨i, t, ek, ev⟩ | ⟨z, t, ek, ev⟩
        · cases ek
          exact ⟨y, t, rfl, ev⟩
        · cases ek
    exact vals_of_ints hS
  · obtain ⟨x, hx, rfl⟩ := List.mem_map.mp hd2
    have h1 := hdp x hx
    have h2 := hr.units
    show X.A.units + 1 + 1 + _ < _
    omega
  · have hf3 := I3.pin (f, _) (List.mem_append_right _ (List.mem_append_left _ (List.mem_append_right _ (List.mem_singleton.mpr rfl))))
    refine lam_run I3 L hN hi ru (hr.in1.in1) I3.ok.frames hf3.1 (sm _ _ hco) (hbind _ _ _ _ _ _) (fun hr' => hbody _ s3 H3 f c' hr') (ht x hx H3 (eN.trans (.of sm)))
  · obtain ⟨w', H', J', rv, q'⟩ := hq
    exact ⟨w', H', J'.unpinned, rv, q'⟩
end
end JT
/-! R6: numbered. -/
namespace JT
open PySem PySem.Spec PyProof.Rows L2 PySem.W
abbrev s_numbered : Stmt := topS 48
abbrev n_numbered : List Str := ["rows", "kids", "first", "deep", "order", "anew", "found", "at", "word", "what", "some", "k", "kid"]
theorem sc_numbered : FnScope n_numbered ["rows", "kids", "first"] (defScope s_numbered) :=
  ⟨rfl, rfl, rfl, by decide +kernel, rfl, by decide +kernel, by decide +kernel⟩
section
variable {P : Program} {w : World} {K : PySem.W.Frag} {mg : Str → Option Value} {base : Heap}
/-- the def st of its own name x, its code object at c -/
structure DefC (K : PySem.W.Frag) (mg : Str → Option Value) (g x : Str) (st : Stmt) (c : Addr) : Prop where
  ex : ∃ (f : Addr) (oc : Value) (od : Option Addr) (kV doc pm : Value) (an : Option Addr) (ct : Value) (osl : Array (Option Value)),
    K.lookup f = some ⟨oc, od, .func (PySem.W.fnOf x x (defArgs st) (defBody st) (defScope st) .none kV doc pm an (.ref c) ct), osl⟩ ∧ PySem.W.codeIn K (.ref c) x = true ∧ PySem.W.keepIn K (.ref f) = true ∧ mg g = some (.ref f)
theorem DefC.cal {g x : Str} {st : Stmt} {c : Addr} {k : Nat} {sp : Sp} {N ps : List Str} (D : DefC K mg g x st c) (S : FnScope N ps (defScope st))
    (hb : ∀ (kV doc pm : Value) (an : Option Addr) (cdv ct : Value) (us : List Value), us.length = ps.length → bindArgs (PySem.W.fnOf x x (defArgs st) (defBody st) (defScope st) .none kV doc pm an cdv ct) ⟨us, []⟩ = pure (ps.zip us))
    (len : ∀ vs H Q E, sp vs H Q E → vs.length = ps.length)
    (hbody : ∀ (f : Addr) (A : Around) (outer : List Env) (s : Shared) (H : Hp) (vs : List V) (Q : VK) (E : XK), Room k (A.deeper (envOfC x (defScope st) s.heap.objs.size f (.ref c))) → sp vs H Q E →
      ∃ t, PSs (cxOf CX0 P w K mg base N x (defScope st) f (.ref c) A outer s H E).nox (defBody st) t ∧ t { nx := fun _ H' => Q .non H', rt := Q } (start N vs) H) : Cal P w K mg base (k + 1) g sp := by
  obtain ⟨f, oc, od, kV, doc, pm, an, ct, osl, lk, hcd, kp, m⟩ := D.ex
  have F : L2.Fun K x x st f (PySem.W.fnOf x x (defArgs st) (defBody st) (defScope st) .none kV doc pm an (.ref c) ct) := ⟨⟨oc, od, kV, doc, pm, an, .ref c, ct, osl, rfl, lk, hcd⟩, kp⟩
  refine ⟨f, _, ps, fn_of lk hcd S len fun A outer s H vs Q E hr hsp => ?_, m, kp, F.binds hb⟩
  obtain ⟨t, h, q⟩ := hbody f A outer s H vs Q E hr hsp
  exact ⟨t, h.nox, q⟩
def lamS1B (sc scope : Scope) (a : Str) : Bool :=
  decide (scope.kind = .function) && !scope.isCoroutine && !scope.isGenerator && decide (scope.names.lookup a = some .local) && scope.names.all fun y => !decide (y.2 = .cell) && (!decide (y.2 = .local) || decide (y.1 = a)) && (!decide (y.2 = .free) || decide (sc.names.lookup y.1 = some .cell) || decide (sc.names.lookup y.1 = some .free))
theorem lamS1_by {sc scope : Scope} {a : Str} (h : lamS1B sc scope a = true) : LamS1 sc scope a := by
  unfold lamS1B at h
  simp only [Bool.and_eq_true, Bool.or_eq_true, Bool.not_eq_true', decide_eq_true_eq, decide_eq_false_iff_not, List.all_eq_true] at h
  obtain ⟨⟨⟨⟨h1, h2⟩, h3⟩, h4⟩, h5⟩ := h
  refine ⟨h1, h2, h3, h4, fun y hy => (h5 y hy).1.1, fun y hl => ?_, fun y hy e => ?_⟩
  · have hm := PySem.mem_of_lookup hl
    rcases (h5 _ hm).1.2 with z | z
    · exact absurd rfl z
    · exact z
  · rcases (h5 y hy).2 with (z | z) | z
    · exact absurd e z
    · exact .inl z
    · exact .inr z
def lamT (P : Addr) : List (Addr × Str) := [(P, (envOfC "numbered" (defScope s_numbered) 0 0 .none).qual ++ "<lambda>")]
theorem ext_tk {H H' : Hp} (e : LamX.ExtN H H') : TK H H' := fun b u h t => e b u h fun ps z => by
  subst z
  rcases t with ⟨_, t⟩ | ⟨_, _, t⟩ <;> cases t
theorem KidsD.ext {H H' : Hp} {d : Addr} {N : Net} {ls : List Addr} (h : KidsD H d N ls) (s : LamX.ExtN H H') : KidsD H' d N ls := ⟨h.1, s _ _ h.2.1 (fun _ z => by cases z), fun i l e => s _ _ (h.2.2 i l e) (fun _ z => by cases z)⟩
theorem DictN.ext {H H' : Hp} {p : Addr} {n : Nat} {F : Nat → Option Nat} (h : DictN H p n F) (s : LamX.ExtN H H') : DictN H' p n F := by
  obtain ⟨kvs, e, r⟩ := h
  exact ⟨kvs, s _ _ e (fun _ z => by cases z), r⟩
def ivV : V → Int
  | .int i => i
  | _ => 0
def deepKey (D : Nat → Nat) (v : V) : PyData := .tuple [.int (D (ivV v).toNat : Nat), .int (ivV v)]
theorem sort_deep (D : Nat → Nat) (n : Nat) : ∃ o : List Nat, o.Perm (List.range n) ∧ o.Pairwise (fun a b => D a ≤ D b) ∧ (((List.range n).map fun (k : Nat) => (k : Int)).map V.int).mergeSort (dataLe false (deepKey D)) = o.map natV := by
  have hxs : ((List.range n).map fun (k : Nat) => (k : Int)).map V.int = (List.range n).map natV := by
    rw [List.map_map]
    rfl
  rw [hxs]
  have hp := List.mergeSort_perm ((List.range n).map natV) (dataLe false (deepKey D))
  have hs : (((List.range n).map natV).mergeSort (dataLe false (deepKey D))).Pairwise (fun a b => D (ivV a).toNat ≤ D (ivV b).toNat) := by
    have e : dataLe false (deepKey D) = fun p q => decide (((D (ivV p).toNat : Nat) : Int) < ((D (ivV q).toNat : Nat) : Int) ∨ (((D (ivV p).toNat : Nat) : Int) = ((D (ivV q).toNat : Nat) : Int) ∧ ivV p ≤ ivV q)) := dataLe_ii (fun v => ((D (ivV v).toNat : Nat) : Int)) ivV
    rw [e]
    have z := List.pairwise_mergeSort (le := fun p q => decide (((D (ivV p).toNat : Nat) : Int) < ((D (ivV q).toNat : Nat) : Int) ∨ (((D (ivV p).toNat : Nat) : Int) = ((D (ivV q).toNat : Nat) : Int) ∧ ivV p ≤ ivV q)))
      (fun a b c h1 h2 => by
        have h1 := of_decide_eq_true h1
        have h2 := of_decide_eq_true h2
        exact decide_eq_true (by omega)) (fun a b => by
        simp only [Bool.or_eq_true, decide_eq_true_eq]
        omega) ((List.range n).map natV)
    exact z.imp fun {a b} q => by
      have q := of_decide_eq_true q
      omega
  generalize ((List.range n).map natV).mergeSort (dataLe false (deepKey D)) = L at hp hs
  have hL : L = (L.map fun v => (ivV v).toNat).map natV := by
    rw [List.map_map]
    have : L = L.map id := by simp
    conv => lhs; rw [this]
    refine List.map_congr_left fun v hv => ?_
    obtain ⟨k, _, e⟩ := List.mem_map.mp (hp.mem_iff.mp hv)
    rw [← e]
    show natV k = natV ((k : Int)).toNat
    rw [Int.toNat_natCast]
  refine ⟨L.map fun v => (ivV v).toNat, ?_, List.pairwise_map.mpr hs, hL⟩
  have := hp.map fun v => (ivV v).toNat
  rw [List.map_map] at this
  have e : (List.range n).map ((fun v => (ivV v).toNat) ∘ natV) = List.range n := by
    have : List.range n = (List.range n).map id := by simp
    conv => rhs; rw [this]
    exact List.map_congr_left fun k _ => by
      show ((k : Int)).toNat = k
      rw [Int.toNat_natCast]
  rw [e] at this
  exact this
theorem nats_of_perm {l : List Nat} {ns : List Int} (h : ns.Perm (l.map fun (k : Nat) => (k : Int))) : ∃ l' : List Nat, l'.Perm l ∧ ns = l'.map fun (k : Nat) => (k : Int) := by
  refine ⟨ns.map Int.toNat, ?_, ?_⟩
  · have := h.map Int.toNat
    rw [List.map_map] at this
    have e : l.map (Int.toNat ∘ fun (k : Nat) => (k : Int)) = l := by
      conv => rhs; rw [show l = l.map id by simp]
      exact List.map_congr_left fun k _ => by
        show ((k : Int)).toNat = k
        rw [Int.toNat_natCast]
    rw [e] at this
    exact this
  · rw [List.map_map]
    conv => lhs; rw [show ns = ns.map id by simp]
    refine List.map_congr_left fun i hi => ?_
    obtain ⟨k, _, e⟩ := List.mem_map.mp (h.mem_iff.mp hi)
    show i = ((i.toNat : Nat) : Int)
    omega
def spNumbered (PT : Addr) : Sp := fun vs H Q _ => ∃ v d N ls, vs = [v, .ref d, natV 0] ∧ DT H v (encN N) ∧ KidsD H d N ls ∧ Loose N ∧ LamX.Tabs (lamT PT) H ∧
  ∀ H' p N' π, LamX.ExtN H H' → LamX.Tabs (lamT PT) H' → DT H' (.ref p) (encN N') → Iso N N' π → Good N' → Q (.ref p) H'
theorem c_numbered {c PT : Addr} (TB : LamX.TabB base mg c PT) (T : Top mg) (D : DefC K mg "numbered" "numbered" s_numbered c) (C_depths : Cal P w K mg base 2 "depths" spDepths) : Cal P w K mg base 6 "numbered" (spNumbered PT) := by
  have C_depths := C_depths.mono (show 2 ≤ 5 by decide)
  refine D.cal sc_numbered (fun _ _ _ _ _ _ us hl => match us, hl with | [_, _, _], _ => rfl) (fun vs H Q E h => ?_) fun f A outer s H vs Q E hr hsp => ?_
  · obtain ⟨_, _, _, _, rfl, _⟩ := h; rfl
  have hu := hu_of hr
  have hrL : Room (2 + 3) (A.deeper (envOfC "numbered" (defScope s_numbered) s.heap.objs.size f (.ref c))) := hr
  refine ⟨_, (pss_cons (ps_set (i := 3) sc_numbered.nd rfl (Or.inr rfl) (pe_f C_depths hr rfl (pa_cons (pv 1) (pa_cons (pv 2) pa_nil))))
    (pss_cons (ps_set (i := 4) sc_numbered.nd rfl (Or.inl rfl) (pe_sortedKL (i := 7) hrL rfl T.sorted (pv 1) TB rfl (List.mem_singleton.mpr rfl) (fun p hp _ => by rw [List.mem_singleton.mp hp]) (lamS1_by (sc := defScope s_numbered) (by decide +kernel)) sc_numbered.nd rfl rfl rfl (fun _ _ _ _ _ _ => rfl) (fun _ _ _ _ _ hr' => (pe_tup (pa_cons (pe_dget (hu_of hr') (pv 3) (pv 7) (fun _ _ => rfl)) (pa_cons (pv 7) pa_nil))))))
    (pss_cons (ps_set (i := 5) sc_numbered.nd rfl (Or.inr rfl) (pe_dc (own := [("k", 11), ("at", 7)]) (tt := tYes) rfl sc_numbered.nd (pi_enum rfl T.enumerate (pa_cons (pv 4) pa_nil)) (blkOk_by (own := [("k", 11), ("at", 7)]) (N := n_numbered) (sc := defScope s_numbered) (by decide +kernel)) (fun _ _ _ _ _ => (pgt (n := 2) rfl (pgs_cons (pg_name (i := 11) sc_numbered.nd rfl (Or.inl rfl)) (pgs_cons (pg_name (i := 7) sc_numbered.nd rfl (Or.inl rfl)) pgs_nil)))) (fun _ _ _ _ _ => pts_nil) (fun _ _ _ _ _ => (pv 7)) (fun _ _ _ _ _ => (pv 11))))
    (pss_cons (ps_set (i := 6) sc_numbered.nd rfl (Or.inl rfl) (pe_lst pa_nil))
    (pss_cons (ps_for PassesOwn.never rfl (pi_listK K (pv 4)) (pg_name (i := 7) sc_numbered.nd rfl (Or.inl rfl))
    (pss_cons (ps_asg (pe_ix ixt (pv 0) (pv 7) (fun _ _ => rfl)) (pgt (n := 2) rfl (pgs_cons (pg_name (i := 8) sc_numbered.nd rfl (Or.inl rfl)) (pgs_cons (pg_name (i := 9) sc_numbered.nd rfl (Or.inl rfl)) pgs_nil))))
    (pss_cons (ps_set (i := 10) sc_numbered.nd rfl (Or.inl rfl) (pe_callTy tupOf rfl T.tuple (by decide +kernel) (pa_cons (pe_callB srtI rfl T.sorted (by decide +kernel) (pa_cons (pe_lc (own := [("kid", 12)]) (g := gName 12) (tt := tYes) rfl sc_numbered.nd (pi_listK K (pe_dget hu (pv 1) (pv 7) (fun _ _ => rfl))) (blkOk_by (own := [("kid", 12)]) (N := n_numbered) (sc := defScope s_numbered) (by decide +kernel)) (fun _ _ _ _ _ => (pg_name (i := 12) sc_numbered.nd rfl (Or.inl rfl))) (fun _ _ _ _ _ => pts_nil) (fun _ _ _ _ _ => (pe_dget hu (pv 5) (pv 12) (fun _ _ => rfl)))) pa_nil)) pa_nil)))
    (pss_cons (ps_if (pt_cmpR op_eq (pv 8) pe_str (nomark _)) (pss_one (ps_set (i := 9) sc_numbered.nd rfl (Or.inl rfl) (pv 10))) pss_nil)
    (pss_cons (ps_if (pt_cmpR op_eq (pv 8) pe_str (nomark _)) (pss_one (ps_set (i := 9) sc_numbered.nd rfl (Or.inl rfl) (pe_ix ixt (pv 10) pe_int (fun _ _ => rfl)))) pss_nil)
    (pss_one (ps_expr (pe_ml PySem.F.slot_list_append PySem.F.type_list_append mt_append (pv 6) (pa_cons (pe_tup (pa_cons (pv 8) (pa_cons (pv 9) pa_nil))) pa_nil)))))))))
    (pss_one (ps_ret (pe_callTy tupOf rfl T.tuple (by decide +kernel) (pa_cons (pv 6) pa_nil))))))))), ?_⟩
  obtain ⟨v, d, N, ls, rfl, hdt, hk, G, hTb, q⟩ := hsp
  obtain ⟨a, xs, rfl, ha, hlen, hrow⟩ := net_at hdt
  have h49 := G.len
  refine ⟨_, rfl, _, rfl, d, N, ls, rfl, hk, G, fun H1 dp F S1 dp0 dn hF1 hF2 hF0 => ?_⟩
  obtain ⟨dkv, e1, e2, e3, e4⟩ := id dn
  have hk1 := hk.up S1
  have hT1 : LamX.Tabs (lamT PT) H1 := hTb.ext S1
  let Dn : Nat → Nat := fun i => (F i).getD 0
  have hDn : ∀ i, i < N.length → F i = some (Dn i) := fun i hi => by
    obtain ⟨m, e⟩ := hF1 i hi
    show F i = some ((F i).getD 0)
    rw [e]
    rfl
  obtain ⟨o, op, os, oe⟩ := sort_deep Dn N.length
  have O : Order N Dn o := ⟨op, os, fun i k hik => by
    obtain ⟨x, y, ex, ey, l⟩ := hF2 i k hik
    show (F i).getD 0 < (F k).getD 0
    rw [ex, ey]
    exact l, by show (F 0).getD 0 = 0; rw [hF0]; rfl⟩
  refine ⟨_, rfl, d, numD (fun i => .ref (ls.getD i 0)) N.length, (List.range N.length).map fun (k : Nat) => (k : Int), deepKey Dn, rfl, .inl hk1.2.1, ?_, by rw [List.length_map, List.length_range]; omega, hT1, ?_, ?_, ?_, fun x hx H2 E2 => ?_, fun op1 H2 E2 hT2 hop => ?_⟩
  · rw [numD_keys, List.map_map]
    rfl
  · intro x hx y hy
    obtain ⟨v1, _, rfl⟩ := List.mem_map.mp hx
    obtain ⟨v2, _, rfl⟩ := List.mem_map.mp hy
    rfl
  · refine .inl fun x hx => ?_
    obtain ⟨v1, _, rfl⟩ := List.mem_map.mp hx
    exact ⟨_, _, rfl⟩
  · intro x hx
    exact (by decide : 1 ≤ 30)
  · obtain ⟨i', hi', rfl⟩ := List.mem_map.mp hx
    obtain ⟨i, hi, rfl⟩ := List.mem_map.mp hi'
    have hi := List.mem_range.mp hi
    have e1' := E2 _ _ e1 (fun _ z => by cases z)
    refine ⟨_, rfl, _, rfl, dp, _, rfl, by
      have z := DGet.k (k := nk i) e1'
      rw [e4, hDn i hi] at z
      exact z, _, rfl, small (show 2 ≤ 10000 by decide), fun r hr2 => ⟨same_upd hr2, .inr ⟨r, (Dn i : Nat), (i : Int), rfl, upd_same, ?_⟩⟩⟩
    show PyData.tuple [.int (Dn ((i : Int)).toNat : Nat), .int (i : Int)] = _
    rw [Int.toNat_natCast]
  · rw [oe] at hop
    have E02 : LamX.ExtN H H2 := (LamX.ExtN.of S1).trans E2
    have hk2 := hk1.ext E2
    have ha2 := E02 _ _ ha (fun _ z => by cases z)
    refine ⟨_, rfl, op1, _, rfl, sl_at hop, fun an han => ?_⟩
    have olen : o.length = N.length := O.len
    have onat : ∀ i, i < N.length → ∃ x, o[i]? = some x ∧ (o.map natV)[i]? = some (natV x) ∧ x < N.length := fun i hi => by
      have e : o[i]? = some (o[i]'(by omega)) := List.getElem?_eq_getElem _
      exact ⟨_, e, by rw [List.getElem?_map, e]; rfl, O.mem.mp (List.mem_of_getElem? e)⟩
    refine dc_gen (n := N.length) (fun i H3 => Same H2 H3 ∧ DictN H3 an N.length (fun x => if x ∈ o.take i then some (pos o x) else none)) ⟨same_upd han, [], upd_same, List.nodup_nil, by simp, fun i => by simp; rfl⟩ (fun i H3 hi ⟨S3, _⟩ => by
      obtain ⟨x, _, e, _⟩ := onat i hi
      exact ⟨_, _, sl_at (S3 _ _ hop), e⟩) (fun H3 ⟨S3, _⟩ => ⟨_, sl_at (S3 _ _ hop), by rw [nats_len]; omega⟩) (fun i H3 x H4 hi ⟨S3, d3⟩ hy => ?_) fun H3 ⟨S3, d3⟩ => ?_
    · obtain ⟨t, y, rfl, ht, rfl, hx⟩ := hy
      have hx := hx _ (sl_at (S3 _ _ hop))
      obtain ⟨x, eo, ex, hxn⟩ := onat i hi
      rw [ex] at hx
      cases hx
      have S4 : Same H3 (upd H3 t (.tup [.int (i : Nat), natV x])) := same_upd ht
      refine ⟨t, _, rfl, upd_same, rfl, _, _, rfl, _, _, rfl, rfl, rfl, ?_⟩
      have d4 := d3.frame (H' := upd H3 t (.tup [.int (i : Nat), natV x])) fun o e => S4 _ _ e
      have S24 := Same.trans' S3 S4
      generalize upd H3 t (.tup [.int (i : Nat), natV x]) = H4 at S4 d4 S24 ⊢
      obtain ⟨kvs, f1, f2, f3, f4⟩ := d4
      have hkl := keysN_len f2 f3
      refine ⟨_, rfl, _, rfl, kvs, nk x, rfl, f1, smallT (by omega), fun b u e => ?_, ?_⟩
      · rw [upd_ne (ne_of_none e han)]
        exact S24 _ _ e
      · have z := dictN_put (H := H4) (p := an) (m := i) f2 f3 f4 hxn
        have eF : (fun j => if j = x then some i else if j ∈ o.take i then some (pos o j) else none) = fun j => if j ∈ o.take (i + 1) then some (pos o j) else none := by
          funext j
          have et : o.take (i + 1) = o.take i ++ [x] := by rw [List.take_add_one, eo]; rfl
          rw [et]
          by_cases e : j = x
          · subst e
            rw [if_pos rfl, if_pos (by simp), O.pos_at eo]
          · rw [if_neg e]
            have : (j ∈ o.take i ++ [x]) ↔ j ∈ o.take i := by simp [e]
            by_cases q : j ∈ o.take i
            · rw [if_pos q, if_pos (this.mpr q)]
            · rw [if_neg q, if_neg (fun z => q (this.mp z))]
        rw [eF] at z
        exact z
    · have htk : o.take N.length = o := List.take_of_length_le (by omega)
      rw [htk] at d3
      have E03 : LamX.ExtN H H3 := E02.trans (.of S3)
      have hk3 := hk2.up S3
      have hop3 := S3 _ _ hop
      have hT3 := hT2.ext S3
      refine ⟨Nat.zero_le _, fun fq hfq => ?_⟩
      have dnk : ∃ kvs, H3 an = some (.dK kvs) ∧ ∀ x, x < N.length → valV kvs (nk x) = some (natV (pos o x)) := by
        obtain ⟨kvs, f1, _, _, f4⟩ := d3
        refine ⟨kvs, f1, fun x hx => ?_⟩
        rw [f4]
        show Option.map natV (if x ∈ o then some (pos o x) else none) = _
        rw [if_pos (O.mem.mpr hx)]
        rfl
      obtain ⟨akv, han3, hav⟩ := dnk
      let Inv2 : Nat → Hp → Prop := fun i H4 => Same H3 H4 ∧ ∃ (ys : List V) (rows : Net), H4 fq = some (.lst ys) ∧ DTs H4 ys (rows.map encR) ∧ rows.length = i ∧ ∀ (j x : Nat) (r : Row), j < i → o[j]? = some x → N[x]? = some r → ∃ r', rows[j]? = some r' ∧ RowNum (pos o) r r'
      have addrow : ∀ (i x : Nat) (r r' : Row) (H4 H6 : Hp) (y' : V), Inv2 i H4 → i < N.length → o[i]? = some x → N[x]? = some r → Same H4 H6 → DT H6 y' (encWhat r') → r'.tag = r.tag → RowNum (pos o) r r' → ∀ rr, H6 rr = none → ∀ ys, H4 fq = some (.lst ys) → Inv2 (i + 1) (upd (upd H6 rr (.tup [.str r.tag, y'])) fq (.lst (ys ++ [.ref rr]))) := by
        intro i x r r' H4 H6 y' ⟨S4, ys, rows, hy, hrows, hrl, hR⟩ hi eo er S46 dy tg rn rr hrr ys' hys'
        rw [hy] at hys'
        cases hys'
        have nrf : rr ≠ fq := fun z => by rw [z, S46 _ _ hy] at hrr; cases hrr
        have hfq6 : upd H6 rr (.tup [.str r.tag, y']) fq = some (.lst ys) := by rw [upd_ne (Ne.symm nrf)]; exact S46 _ _ hy
        have tk1 : TK H6 (upd (upd H6 rr (.tup [.str r.tag, y'])) fq (.lst (ys ++ [.ref rr]))) := TK.trans (tk_new hrr) (tk_set hfq6 no_lst)
        refine ⟨fun b u e => ?_, ys ++ [.ref rr], rows ++ [r'], upd_same, ?_, by rw [List.length_append, hrl]; rfl, fun j x' r2 hj ej er2 => ?_⟩
        · rw [upd_ne (ne_of_none e hfq), upd_ne (ne_of_none (S46 _ _ (S4 _ _ e)) hrr)]
          exact S46 _ _ (S4 _ _ e)
        · rw [List.map_append]
          refine DTs.snoc (hrows.up (TK.trans (Same.tk S46) tk1)) ?_
          refine row_mk (r := r') (y := y') ?_ (dy.up tk1)
          rw [upd_ne nrf, upd_same, tg]
        · rcases Nat.lt_or_ge j i with h | h
          · obtain ⟨r3, e3, q3⟩ := hR j x' r2 h ej er2
            exact ⟨r3, by rw [List.getElem?_append_left (by rw [hrl]; exact h)]; exact e3, q3⟩
          · have hji : j = i := by omega
            subst hji
            rw [eo] at ej
            cases ej
            rw [er] at er2
            cases er2
            exact ⟨r', by rw [List.getElem?_append_right (by rw [hrl]; exact Nat.le_refl _), hrl]; simp, rn⟩
      refine ⟨_, rfl, op1, rfl, ⟨_, sl_at ((same_upd hfq) _ _ hop3)⟩, ?_⟩
      refine for_gen (n := N.length) (fun i σ H4 => (∃ s7 s8 s9 s10 s11 s12, σ = [some (.ref a), some (.ref d), some (natV 0), some (.ref dp), some (.ref op1), some (.ref an), some (.ref fq), s7, s8, s9, s10, s11, s12]) ∧ Inv2 i H4)
        ⟨⟨_, _, _, _, _, _, rfl⟩, same_upd hfq, [], [], upd_same, .nil, rfl, by intro j x r h; exact absurd h (Nat.not_lt_zero _)⟩ (fun i σ H4 hi ⟨_, S4, _⟩ => go_lst (S4 _ _ hop3) (by rw [nats_len]; omega)) (fun σ H4 ⟨_, S4, _⟩ => st_lst (S4 _ _ hop3) (by rw [nats_len]; omega)) (fun i σ H4 x H5 hi ⟨⟨s7, s8, s9, s10, s11, s12, es⟩, I4⟩ hy => ?_) fun σ H4 ⟨⟨s7, s8, s9, s10, s11, s12, es⟩, S4, ys, rows, hys, hrows, hrl, hR⟩ => ?_
      · subst es
        obtain ⟨rfl, hx⟩ := hy
        obtain ⟨S4, ys, rows, hys, hrows, hrl, hR⟩ := id I4
        have hx := hx _ (sl_at (S4 _ _ hop3))
        obtain ⟨x, eo, ex, hxn⟩ := onat i hi
        rw [ex] at hx
        cases hx
        obtain ⟨xx, hxx⟩ : ∃ xx, xs[x]? = some xx := ⟨_, List.getElem?_eq_getElem (by omega)⟩
        obtain ⟨r, er, hdr⟩ := hrow x xx hxx
        obtain ⟨b, y, rfl, hb, hy⟩ := row_at hdr
        have old : ∀ {c : Addr} {u : HO}, H c = some u → (∀ ps, u ≠ .tbl ps) → H5 c = some u := fun e n => S4 _ _ (E03 _ _ e n)
        have hb5 := old hb (fun _ z => by cases z)
        have hk5 := hk3.up S4
        obtain ⟨l, el, egl, hl⟩ := hk5.at hxn
        have ek : kidsAt N x = r.kids := kidsAt_some er
        have hy5 : DT H5 y (encWhat r) := hy.up (TK.trans (ext_tk E03) (Same.tk S4))
        refine ⟨_, rfl, _, rfl, a, xs, (x : Int), _, rfl, rfl, old ha (fun _ z => by cases z), atI_nat hxx, b, _, rfl, hb5, rfl, _, _, rfl, _, _, rfl, rfl, ?_⟩
        refine ⟨_, rfl, _, rfl, d, _, rfl, by
          have z := DGet.k (k := nk x) hk5.2.1
          rw [numD_val _ hxn, egl] at z
          exact z, l, rfl, ⟨_, sl_at hl⟩, fun D6 hD6 => ?_⟩
        refine lc_map (n := (kidsAt N x).length) (fun _ => true) (fun j => natV (pos o ((kidsAt N x).getD j 0))) hD6 (by have := G.kids_le x; omega) (fun j H6 hj hS => go_lst (hS _ _ hl) (by rw [nats_len]; exact hj)) (fun H6 hS => st_lst (hS _ _ hl) (by rw [nats_len]; exact Nat.le_refl _)) (fun j H6 z H7 Kt Kf hj hS hz hKt hKf => ?_) fun H6 hS6 hl6 => ?_
        · obtain ⟨rfl, hz⟩ := hz
          have hz := hz _ (sl_at (hS _ _ hl))
          rw [nats_at hj] at hz
          cases hz
          have hkm : (kidsAt N x)[j] ∈ kidsAt N x := List.getElem_mem hj
          have hlt := G.lt x _ hkm
          have eg : (kidsAt N x).getD j 0 = (kidsAt N x)[j] := by rw [List.getD_eq_getElem?_getD, List.getElem?_eq_getElem hj]; rfl
          rw [eg] at hKt
          refine ⟨rfl, _, rfl, _, rfl, an, _, rfl, by
            have z := DGet.k (k := nk (kidsAt N x)[j]) (hS _ _ (S4 _ _ han3))
            rw [hav _ hlt] at z
            exact z, hKt rfl _ (Same.refl' _)⟩
        · have emap : kept (fun _ => true) (fun j => natV (pos o ((kidsAt N x).getD j 0))) (kidsAt N x).length = (((kidsAt N x).map (pos o)).map fun (k : Nat) => (k : Int)).map V.int := by
            rw [kept_all, List.map_map, List.map_map]
            apply List.ext_getElem
            · simp
            · intro j h1 h2
              simp at h1
              simp [List.getElem?_eq_getElem h1, natV]
          rw [emap] at hl6
          refine ⟨D6, _, rfl, hl6, fun ns p pm so np => ?_⟩
          obtain ⟨ks', kp, ens⟩ := nats_of_perm pm
          refine ⟨p, _, rfl, upd_same, fun l7 hl7 => ?_⟩
          have e7 : l7 ≠ p := fun z => by rw [z, upd_same] at hl7; cases hl7
          have S7 : Same H5 (upd (upd H6 p (.lst (ns.map V.int))) l7 (.tup (ns.map V.int))) := Same.trans' hS6 (Same.trans' (same_upd np) (same_upd hl7))
          have h7 : upd (upd H6 p (.lst (ns.map V.int))) l7 (.tup (ns.map V.int)) l7 = some (.tup (ks'.map natV)) := by
            rw [upd_same, ens, List.map_map]
            rfl
          generalize upd (upd H6 p (.lst (ns.map V.int))) l7 (.tup (ns.map V.int)) = H7 at S7 h7 ⊢
          have krise : ks'.Pairwise (· < ·) := by
            rw [ens] at so
            have s1 := List.pairwise_map.mp so
            have nd : ks'.Nodup := kp.nodup_iff.mpr (by
              rw [List.nodup_iff_pairwise_ne, List.pairwise_map]
              rw [List.pairwise_iff_getElem]
              intro u v hu hv huv e
              have hkn := G.kids_nodup x
              have lu := G.lt x _ (List.getElem_mem hu)
              have lv := G.lt x _ (List.getElem_mem hv)
              have h1 := O.at_pos lu
              rw [e, O.at_pos lv] at h1
              have h1 : (kidsAt N x)[v] = (kidsAt N x)[u] := Option.some.inj h1
              have := (List.getElem_inj hkn).mp h1
              omega)
            exact (s1.and nd).imp fun {u v} ⟨q1, q2⟩ => by omega
          have ylen : ys.length < sizeLine := by
            rw [hrows.length, List.length_map, hrl]
            exact smallT (by omega)
          refine ⟨_, rfl, rfl, _, rfl, ?_⟩
          cases r with
          | leaf z =>
            refine iteN (by simp [Row.tag]; decide) ⟨_, rfl, rfl, _, rfl, iteN (by simp [Row.tag]; decide) ?_⟩
            refine ⟨_, rfl, ⟨fq, _, rfl, S7 _ _ hys⟩, _, rfl, _, rfl, small (show 2 ≤ 10000 by decide), fun rr hrr => ⟨fq, ys, .ref rr, rfl, rfl, ?_, ylen, ⟨_, _, _, _, _, _, rfl⟩, addrow i x (.leaf z) (.leaf z) H5 H7 y I4 hi eo er S7 (hy5.up (Same.tk S7)) rfl rfl rr hrr ys hys⟩⟩
            rw [upd_ne (ne_of_none (S7 _ _ hys) hrr)]
            exact S7 _ _ hys
          | fork ks =>
            refine iteP rfl ⟨_, rfl, _, rfl, rfl, _, rfl, iteN (by simp [Row.tag]; decide) ?_⟩
            refine ⟨_, rfl, ⟨fq, _, rfl, S7 _ _ hys⟩, _, rfl, _, rfl, small (show 2 ≤ 10000 by decide), fun rr hrr => ⟨fq, ys, .ref rr, rfl, rfl, ?_, ylen, ⟨_, _, _, _, _, _, rfl⟩, addrow i x (.fork ks) (.fork ks') H5 H7 (.ref l7) I4 hi eo er S7 (.tup h7 (DTs.nats ks')) rfl ⟨by rw [ek] at kp; exact kp, krise⟩ rr hrr ys hys⟩⟩
            rw [upd_ne (ne_of_none (S7 _ _ hys) hrr)]
            exact S7 _ _ hys
          | join k =>
            have ek1 : ks' = [pos o k] := by
              rw [ek] at kp
              exact List.perm_singleton.mp kp
            subst ek1
            refine iteN (by simp [Row.tag]; decide) ⟨_, rfl, rfl, _, rfl, iteP rfl ?_⟩
            refine ⟨_, rfl, l7, _, 0, _, rfl, rfl, h7, atI_nat (j := 0) rfl, ?_⟩
            refine ⟨_, rfl, ⟨fq, _, rfl, S7 _ _ hys⟩, _, rfl, _, rfl, small (show 2 ≤ 10000 by decide), fun rr hrr => ⟨fq, ys, .ref rr, rfl, rfl, ?_, ylen, ⟨_, _, _, _, _, _, rfl⟩, addrow i x (.join k) (.join (pos o k)) H5 H7 (natV (pos o k)) I4 hi eo er S7 (.int _) rfl rfl rr hrr ys hys⟩⟩
            rw [upd_ne (ne_of_none (S7 _ _ hys) hrr)]
            exact S7 _ _ hys
      · subst es
        have A : Anew N rows o := ⟨hrl, fun i x r eo er => hR i x r (by rw [← olen]; exact (List.getElem?_eq_some_iff.mp eo).1) eo er⟩
        refine ⟨_, rfl, fq, ys, rfl, hys, fun p np => ?_⟩
        have S5 := same_upd (o := .tup ys) np
        exact q _ p rows (pos o) (E03.trans (.of (Same.trans' S4 S5))) (hT3.ext (Same.trans' S4 S5)) (.tup upd_same (hrows.up (Same.tk S5))) (A.iso O G) (A.good O G)
end
end JT
/-! Mat7: the rows of a tree. -/
namespace JT
open PySem PySem.Spec PyProof.Rows L2 PySem.W
mutual
def szT : Tree → Nat
  | .leaf _ => 1
  | .node ts => szTs ts + 1
def szTs : List Tree → Nat
  | [] => 0
  | t :: ts => szT t + szTs ts
end
def starts : Nat → List Tree → List Nat
  | _, [] => []
  | b, t :: ts => b :: starts (b + szT t) ts
mutual
def rowsT : Nat → Tree → Net
  | _, .leaf s => [.leaf s]
  | b, .node ts => .fork (starts (b + 1) ts) :: rowsTs (b + 1) ts
def rowsTs : Nat → List Tree → Net
  | _, [] => []
  | b, t :: ts => rowsT b t ++ rowsTs (b + szT t) ts
end
mutual
theorem rowsT_len : ∀ (b : Nat) (t : Tree), (rowsT b t).length = szT t
  | _, .leaf s => rfl
  | b, .node ts => by
    simp only [rowsT, szT, List.length_cons]
    rw [rowsTs_len (b + 1) ts]
theorem rowsTs_len : ∀ (b : Nat) (ts : List Tree), (rowsTs b ts).length = szTs ts
  | _, [] => rfl
  | b, t :: ts => by
    simp only [rowsTs, szTs, List.length_append]
    rw [rowsT_len b t, rowsTs_len (b + szT t) ts]
end
theorem szT_pos : ∀ t : Tree, 1 ≤ szT t
  | .leaf _ => Nat.le_refl _
  | .node ts => Nat.le_add_left _ _
theorem starts_len : ∀ (b : Nat) (ts : List Tree), (starts b ts).length = ts.length
  | _, [] => rfl
  | b, t :: ts => by simp [starts, starts_len (b + szT t) ts]
theorem starts_range : ∀ (b : Nat) (ts : List Tree), ∀ x ∈ starts b ts, b ≤ x ∧ x < b + szTs ts
  | b, [], x, h => by cases h
  | b, t :: ts, x, h => by
    have hp := szT_pos t
    rcases List.mem_cons.mp h with e | h
    · subst e
      simp only [szTs]
      omega
    · have := starts_range (b + szT t) ts x h
      simp only [szTs]
      omega
theorem starts_rise : ∀ (b : Nat) (ts : List Tree), (starts b ts).Pairwise (· < ·)
  | b, [] => .nil
  | b, t :: ts => by
    have hp := szT_pos t
    refine List.pairwise_cons.mpr ⟨fun x hx => ?_, starts_rise _ ts⟩
    have := starts_range _ ts x hx
    omega
theorem rowsTs_app : ∀ (b : Nat) (ts us : List Tree), rowsTs b (ts ++ us) = rowsTs b ts ++ rowsTs (b + szTs ts) us
  | b, [], us => by simp [rowsTs, szTs]
  | b, t :: ts, us => by
    simp only [List.cons_append, rowsTs, szTs]
    rw [rowsTs_app (b + szT t) ts us, List.append_assoc, Nat.add_assoc]
theorem starts_app : ∀ (b : Nat) (ts us : List Tree), starts b (ts ++ us) = starts b ts ++ starts (b + szTs ts) us
  | b, [], us => by simp [starts, szTs]
  | b, t :: ts, us => by
    simp only [List.cons_append, starts, szTs]
    rw [starts_app (b + szT t) ts us, Nat.add_assoc]
theorem szTs_app (ts us : List Tree) : szTs (ts ++ us) = szTs ts + szTs us := by
  induction ts with
  | nil => simp [szTs]
  | cons t ts ih =>
    simp only [List.cons_append, szTs, ih]
    omega
mutual
theorem names_rowsT : ∀ (b : Nat) (t : Tree), names (rowsT b t) = namesT t
  | _, .leaf s => rfl
  | b, .node ts => by
    show names (rowsTs (b + 1) ts) = namesTs ts
    exact names_rowsTs (b + 1) ts
theorem names_rowsTs : ∀ (b : Nat) (ts : List Tree), names (rowsTs b ts) = namesTs ts
  | _, [] => rfl
  | b, t :: ts => by
    show (rowsT b t ++ rowsTs (b + szT t) ts).filterMap Row.name? = namesT t ++ namesTs ts
    rw [List.filterMap_append]
    have h1 : (rowsT b t).filterMap Row.name? = namesT t := names_rowsT b t
    have h2 : (rowsTs (b + szT t) ts).filterMap Row.name? = namesTs ts := names_rowsTs _ ts
    rw [h1, h2]
end
-- all forks have two parts at least
mutual
def Bin : Tree → Prop
  | .leaf _ => True
  | .node ts => 2 ≤ ts.length ∧ Bins ts
def Bins : List Tree → Prop
  | [] => True
  | t :: ts => Bin t ∧ Bins ts
end
mutual
theorem TOk.bin : ∀ (t : Tree), TOk t → Bin t
  | .leaf _, _ => trivial
  | .node ts, h => ⟨h.1, TOks.bin ts h.2.2⟩
theorem TOks.bin : ∀ (ts : List Tree), TOks ts → Bins ts
  | [], _ => trivial
  | t :: ts, h => ⟨TOk.bin t h.1, TOks.bin ts h.2⟩
end
mutual
theorem Bin.full : ∀ (t : Tree), Bin t → Full t
  | .leaf _, _ => trivial
  | .node ts, h => ⟨fun z => by rw [z] at h; exact absurd h.1 (by simp), Bins.full ts h.2⟩
theorem Bins.full : ∀ (ts : List Tree), Bins ts → Fulls ts
  | [], _ => trivial
  | t :: ts, h => ⟨Bin.full t h.1, Bins.full ts h.2⟩
end
theorem Bins_iff : ∀ {ts : List Tree}, Bins ts ↔ ∀ t ∈ ts, Bin t
  | [] => by simp [Bins]
  | t :: ts => by simp [Bins, Bins_iff (ts := ts)]
mutual
/-- a fork's rows are at most twice the leaves -/
theorem szT_le : ∀ (t : Tree), Bin t → szT t + 1 ≤ 2 * (namesT t).length
  | .leaf s, _ => by simp [szT, namesT]
  | .node [], h => absurd h.1 (by simp)
  | .node [t], h => absurd h.1 (by simp)
  | .node (t :: u :: ts), h => by
    have a := szT_le t h.2.1
    have b := szT_le u h.2.2.1
    have c := szTs_le ts h.2.2.2
    simp only [szT, szTs, namesT, namesTs, List.length_append] at *
    omega
theorem szTs_le : ∀ (ts : List Tree), Bins ts → szTs ts ≤ 2 * (namesTs ts).length
  | [], _ => Nat.le_refl _
  | t :: ts, h => by
    have a := szT_le t h.1
    have b := szTs_le ts h.2
    simp only [szTs, namesTs, List.length_append] at *
    omega
end
/-! ### counting parents -/
theorem flat_get (N : Net) : (List.range N.length).flatMap (fun i => kidsAt N i) = N.flatMap Row.kids := by
  have main : ∀ n, n ≤ N.length → (List.range n).flatMap (fun i => kidsAt N i) = (N.take n).flatMap Row.kids := by
    intro n
    induction n with
    | zero => intro _; rfl
    | succ n ih =>
      intro h
      obtain ⟨r, er⟩ := row_ex (N := N) (show n < N.length by omega)
      rw [List.range_succ, List.flatMap_append, ih (by omega), List.take_add_one, er, List.flatMap_append]
      simp [kidsAt_some er]
  have := main N.length (Nat.le_refl _)
  rw [List.take_length] at this
  exact this
theorem ways_count (N : Net) (k : Nat) : (ways N k).length = (N.flatMap Row.kids).count k := by
  rw [← flat_get]
  have e : (edges N).map (·.2) = (List.range N.length).flatMap (fun i => kidsAt N i) := by
    unfold edges edgesTo
    rw [List.map_flatMap]
    congr 1
    funext i
    rw [List.map_map]
    have : ((fun x : Nat × Nat => x.2) ∘ fun k => (i, k)) = id := rfl
    rw [this, List.map_id]
  rw [← e]
  unfold ways waysOf
  rw [List.length_map, List.count_eq_countP, List.countP_map, List.countP_eq_length_filter]
  rfl
mutual
theorem kidsT_perm : ∀ (b : Nat) (t : Tree), ((rowsT b t).flatMap Row.kids).Perm (List.range' (b + 1) (szT t - 1))
  | b, .leaf s => .refl _
  | b, .node ts => by
    have h := kidsTs_perm (b + 1) ts
    show (starts (b + 1) ts ++ (rowsTs (b + 1) ts).flatMap Row.kids).Perm (List.range' (b + 1) (szTs ts + 1 - 1))
    rw [Nat.add_sub_cancel]
    exact h
theorem kidsTs_perm : ∀ (b : Nat) (ts : List Tree), (starts b ts ++ (rowsTs b ts).flatMap Row.kids).Perm (List.range' b (szTs ts))
  | b, [] => .refl _
  | b, t :: ts => by
    have h1 := kidsT_perm b t
    have h2 := kidsTs_perm (b + szT t) ts
    have hp := szT_pos t
    show (b :: starts (b + szT t) ts ++ (rowsT b t ++ rowsTs (b + szT t) ts).flatMap Row.kids).Perm (List.range' b (szT t + szTs ts))
    rw [List.flatMap_append]
    have e : List.range' b (szT t + szTs ts) = b :: List.range' (b + 1) (szT t - 1) ++ List.range' (b + szT t) (szTs ts) := by
      have e1 : szT t + szTs ts = (szT t) + szTs ts := rfl
      rw [← List.range'_append_1]
      congr 1
      have : szT t = (szT t - 1) + 1 := by omega
      conv => lhs; rw [this, List.range'_succ]
    rw [e]
    rw [List.cons_append, List.cons_append]
    refine List.Perm.cons b ?_
    have e2 : (starts (b + szT t) ts ++ ((rowsT b t).flatMap Row.kids ++ (rowsTs (b + szT t) ts).flatMap Row.kids)).Perm ((rowsT b t).flatMap Row.kids ++ (starts (b + szT t) ts ++ (rowsTs (b + szT t) ts).flatMap Row.kids)) := by
      rw [← List.append_assoc, ← List.append_assoc]
      exact List.Perm.append_right _ List.perm_append_comm
    exact e2.trans (h1.append h2)
end
mutual
theorem noJoinT : ∀ (b : Nat) (t : Tree), ∀ r ∈ rowsT b t, r.isJoin = false
  | b, .leaf s, r, h => by
    have e : r = .leaf s := by simpa [rowsT] using h
    rw [e]
    rfl
  | b, .node ts, r, h => by
    rcases List.mem_cons.mp (show r ∈ Row.fork (starts (b + 1) ts) :: rowsTs (b + 1) ts from h) with e | h
    · rw [e]
      rfl
    · exact noJoinTs (b + 1) ts r h
theorem noJoinTs : ∀ (b : Nat) (ts : List Tree), ∀ r ∈ rowsTs b ts, r.isJoin = false
  | b, [], r, h => by cases h
  | b, t :: ts, r, h => by
    rcases List.mem_append.mp (show r ∈ rowsT b t ++ rowsTs (b + szT t) ts from h) with h | h
    · exact noJoinT b t r h
    · exact noJoinTs _ ts r h
end
/-- the forks among the rows -/
def ForkOk (n i : Nat) (ks : List Nat) : Prop := 2 ≤ ks.length ∧ ks.Pairwise (· < ·) ∧ ∀ k ∈ ks, i < k ∧ k < n
mutual
theorem forksT : ∀ (b : Nat) (t : Tree), Bin t → ∀ (i : Nat) (ks : List Nat), (rowsT b t)[i]? = some (Row.fork ks) → ForkOk (b + szT t) (b + i) ks
  | b, .leaf s, _, i, ks, h => by
    cases i with
    | zero => cases h
    | succ i => simp [rowsT] at h
  | b, .node ts, ok, i, ks, h => by
    cases i with
    | zero =>
      have e : starts (b + 1) ts = ks := by
        have h : some (Row.fork (starts (b + 1) ts)) = some (Row.fork ks) := h
        injection h with h
        injection h
      subst e
      refine ⟨by rw [starts_len]; exact ok.1, starts_rise _ _, fun k hk => ?_⟩
      have := starts_range _ _ k hk
      simp only [szT]
      omega
    | succ i =>
      have h : (rowsTs (b + 1) ts)[i]? = some (Row.fork ks) := h
      have z := forksTs (b + 1) ts ok.2 i ks h
      obtain ⟨z1, z2, z3⟩ := z
      refine ⟨z1, z2, fun k hk => ?_⟩
      have := z3 k hk
      simp only [szT]
      omega
theorem forksTs : ∀ (b : Nat) (ts : List Tree), Bins ts → ∀ (i : Nat) (ks : List Nat), (rowsTs b ts)[i]? = some (Row.fork ks) → ForkOk (b + szTs ts) (b + i) ks
  | b, [], _, i, ks, h => by simp [rowsTs] at h
  | b, t :: ts, ok, i, ks, h => by
    have h : (rowsT b t ++ rowsTs (b + szT t) ts)[i]? = some (Row.fork ks) := h
    rw [List.getElem?_append, rowsT_len] at h
    split at h
    · obtain ⟨z1, z2, z3⟩ := forksT b t ok.1 i ks h
      refine ⟨z1, z2, fun k hk => ?_⟩
      have := z3 k hk
      simp only [szTs]
      omega
    · rename_i hge
      obtain ⟨z1, z2, z3⟩ := forksTs (b + szT t) ts ok.2 _ ks h
      refine ⟨z1, z2, fun k hk => ?_⟩
      have := z3 k hk
      simp only [szTs]
      omega
end
/-- a net without joins that is a tree's rows -/
theorem goodT {t : Tree} (ok : Bin t) (nd : (namesT t).Nodup) (few : (namesT t).length ≤ 10) (hn : ∀ n ∈ namesT t, NameOk n) : Good (rowsT 0 t) := by
  have hl := rowsT_len 0 t
  have hp := szT_pos t
  have hs := szT_le t ok
  have kin : ∀ i k, k ∈ kidsAt (rowsT 0 t) i → ∃ ks, (rowsT 0 t)[i]? = some (Row.fork ks) ∧ k ∈ ks := fun i k h => by
    obtain ⟨r, er⟩ := row_ex (kidsAt_lt h)
    rw [kidsAt_some er] at h
    cases r with
    | leaf s => cases h
    | fork ks => exact ⟨ks, er, h⟩
    | join j => have := noJoinT 0 t _ (List.mem_of_getElem? er); cases this
  have kb : ∀ i k, k ∈ kidsAt (rowsT 0 t) i → i < k ∧ k < szT t := fun i k h => by
    obtain ⟨ks, e, hk⟩ := kin i k h
    have := (forksT 0 t ok i ks e).2.2 k hk
    omega
  have nj : ∀ i k : Nat, (rowsT 0 t)[i]? ≠ some (Row.join k) := fun i k h => by
    have := noJoinT 0 t _ (List.mem_of_getElem? h)
    cases this
  refine { pos := by omega, len := by omega, lt := fun i k h => by rw [hl]; exact (kb i k h).2, two := fun i ks h => ?_, led := fun k hk => ?_, root := nj 0, nameOk := fun s hs => hn s (by rw [names_rowsT] at hs; exact hs), nd := by rw [names_rowsT]; exact nd, few := by rw [names_rowsT]; exact few, jfew := ?_, rank := ⟨id, fun i k h => (kb i k h).1⟩, down := fun i k h => (kb i k h).1, rise := fun i ks h => (forksT 0 t ok i ks h).2.1 }
  · have z := forksT 0 t ok i ks h
    exact ⟨z.1, z.2.1.imp fun q => Nat.ne_of_lt q⟩
  · rw [ways_count, (kidsT_perm 0 t).count_eq, List.count_eq_countP]
    rw [hl] at hk
    have hc : ∀ (n b k : Nat), (List.range' b n).countP (· == k) = if b ≤ k ∧ k < b + n then 1 else 0 := by
      intro n
      induction n with
      | zero =>
        intro b k
        rw [if_neg (by omega)]
        rfl
      | succ n ih =>
        intro b k
        rw [List.range'_succ, List.countP_cons, ih]
        by_cases e : b = k
        · subst e
          rw [if_neg (by omega), if_pos (by simp), if_pos (by omega)]
        · rw [if_neg (show ¬ ((b == k) = true) by simpa using e)]
          by_cases q : b + 1 ≤ k ∧ k < b + 1 + n
          · rw [if_pos q, if_pos (by omega)]
          · rw [if_neg q, if_neg (by omega)]
    rw [hc]
    unfold dueWays
    by_cases h0 : k = 0
    · subst h0
      rw [if_pos rfl, if_neg (by omega)]
    · rw [if_neg h0, if_pos (by omega)]
      obtain ⟨r, er⟩ := row_ex (N := rowsT 0 t) (i := k) (by omega)
      rw [er]
      cases r with
      | leaf s => rfl
      | fork ks => rfl
      | join j => exact absurd er (nj k j)
  · have : joins (rowsT 0 t) = [] := by
      unfold joins
      rw [List.filter_eq_nil_iff]
      intro i hi
      obtain ⟨r, er⟩ := row_ex (N := rowsT 0 t) (List.mem_range.mp hi)
      rw [er]
      have := noJoinT 0 t _ (List.mem_of_getElem? er)
      simp [this]
    rw [this]
    exact Nat.zero_le _
/-! ### a tree within a net -/
/-- the row i of N and what lies below it is the tree t -/
inductive Rep (N : Net) : Nat → Tree → Prop
  | leaf {i : Nat} {s : Str} : N[i]? = some (Row.leaf s) → Rep N i (.leaf s)
  | node {i : Nat} {ks : List Nat} {ts : List Tree} (kd : Tree → Nat) : N[i]? = some (Row.fork ks) → (∀ t ∈ ts, kd t ∈ ks) → (∀ t ∈ ts, Rep N (kd t) t) → Rep N i (.node ts)
open Classical in
theorem Rep.node' {N : Net} {i : Nat} {ks : List Nat} {ts : List Tree} (h : N[i]? = some (Row.fork ks)) (hk : ∀ t ∈ ts, ∃ k ∈ ks, Rep N k t) : Rep N i (.node ts) := by
  refine .node (fun t => if q : t ∈ ts then (hk t q).choose else 0) h (fun t ht => ?_) fun t ht => ?_
  · rw [dif_pos ht]
    exact (hk t ht).choose_spec.1
  · rw [dif_pos ht]
    exact (hk t ht).choose_spec.2
mutual
theorem repT : ∀ (t : Tree) (N : Net) (b : Nat), (∀ (i : Nat) (r : Row), (rowsT b t)[i]? = some r → N[b + i]? = some r) → Rep N b t
  | .leaf s, N, b, h => .leaf (h 0 _ rfl)
  | .node ts, N, b, h => by
    refine .node' (h 0 _ rfl) fun t ht => ?_
    exact repTs ts N (b + 1) (fun i r e => by
      have := h (i + 1) r e
      rw [show b + 1 + i = b + (i + 1) by omega]
      exact this) t ht
theorem repTs : ∀ (ts : List Tree) (N : Net) (b : Nat), (∀ (i : Nat) (r : Row), (rowsTs b ts)[i]? = some r → N[b + i]? = some r) → ∀ t ∈ ts, ∃ k ∈ starts b ts, Rep N k t
  | [], N, b, h, t, ht => by cases ht
  | u :: ts, N, b, h, t, ht => by
    have h1 : ∀ (i : Nat) (r : Row), (rowsT b u)[i]? = some r → N[b + i]? = some r := fun i r e => h i r (by
      show (rowsT b u ++ rowsTs (b + szT u) ts)[i]? = some r
      rw [List.getElem?_append_left (List.getElem?_eq_some_iff.mp e).1]
      exact e)
    have h2 : ∀ (i : Nat) (r : Row), (rowsTs (b + szT u) ts)[i]? = some r → N[b + szT u + i]? = some r := fun i r e => by
      have := h (szT u + i) r (by
        show (rowsT b u ++ rowsTs (b + szT u) ts)[szT u + i]? = some r
        rw [List.getElem?_append_right (by rw [rowsT_len]; omega), rowsT_len, Nat.add_sub_cancel_left]
        exact e)
      rw [Nat.add_assoc]
      exact this
    by_cases e : t = u
    · exact ⟨b, by simp [starts], by rw [e]; exact repT u N b h1⟩
    · have ht : t ∈ ts := by
        rcases List.mem_cons.mp ht with z | z
        · exact absurd z e
        · exact z
      obtain ⟨k, hk, r⟩ := repTs ts N (b + szT u) h2 t ht
      exact ⟨k, by simp [starts, hk], r⟩
end
theorem Rep.iso {N N' : Net} {π : Nat → Nat} (I : Iso N N' π) {i : Nat} {t : Tree} (h : Rep N i t) : Rep N' (π i) t := by
  induction h with
  | leaf h => exact .leaf (I.leaf _ _ h)
  | node kd h hk _ ih =>
    obtain ⟨ks', e, p⟩ := I.fork _ _ h
    exact .node (fun t => π (kd t)) e (fun t ht => p.mem_iff.mpr (List.mem_map_of_mem (hk t ht))) ih
end JT
/-! R7: net_of, tree_rows, net_of_tree. -/
namespace JT
open PySem PySem.Spec PyProof.Rows L2 PySem.W
abbrev s_net_of : Stmt := topS 49
abbrev n_net_of : List Str := ["rows", "left", "net"]
theorem sc_net_of : FnScope n_net_of ["rows"] (defScope s_net_of) :=
  ⟨rfl, rfl, rfl, by decide +kernel, rfl, by decide +kernel, by decide +kernel⟩
abbrev s_tree_rows : Stmt := topS 50
abbrev n_tree_rows : List Str := ["tree", "found", "at", "part"]
theorem sc_tree_rows : FnScope n_tree_rows ["tree", "found"] (defScope s_tree_rows) :=
  ⟨rfl, rfl, rfl, by decide +kernel, rfl, by decide +kernel, by decide +kernel⟩
abbrev s_net_of_tree : Stmt := topS 51
abbrev n_net_of_tree : List Str := ["tree", "found"]
theorem sc_net_of_tree : FnScope n_net_of_tree ["tree"] (defScope s_net_of_tree) :=
  ⟨rfl, rfl, rfl, by decide +kernel, rfl, by decide +kernel, by decide +kernel⟩
section
variable {P : Program} {w : World} {K : PySem.W.Frag} {mg : Str → Option Value} {base : Heap}
def spNetOf (PT : Addr) : Sp := fun vs H Q _ => ∃ v N, vs = [v] ∧ DT H v (encN N) ∧ Loose N ∧ LamX.Tabs (lamT PT) H ∧
  ∀ H' p N' π, LamX.ExtN H H' → LamX.Tabs (lamT PT) H' → DT H' (.ref p) (encN N') → Iso N N' π → Good N' → Q (.ref p) H'
theorem c_net_of {PT : Addr} (T : Top mg) (D : Def K mg "net_of" "net_of" s_net_of) (C_are_loose_rows : Cal P w K mg base 4 "are_loose_rows" spAreLoose) (C_reduced : Cal P w K mg base 3 "reduced" spReduced) (C_numbered : Cal P w K mg base 6 "numbered" (spNumbered PT)) (C_is_net : Cal P w K mg base 4 "is_net" spIsNet) : Cal P w K mg base 7 "net_of" (spNetOf PT) := by
  have C_are_loose_rows := C_are_loose_rows.mono (show 4 ≤ 6 by decide)
  have C_reduced := C_reduced.mono (show 3 ≤ 6 by decide)
  have C_is_net := C_is_net.mono (show 4 ≤ 6 by decide)
  refine D.cal sc_net_of (fun _ _ _ _ _ _ us hl => match us, hl with | [_], _ => rfl) (fun vs H Q E h => ?_) fun f cdv A outer s H vs Q E hr hsp => ?_
  · obtain ⟨_, _, rfl, _⟩ := h; rfl
  refine ⟨_, (pss_cons (ps_if (pt_not (pt_val (pe_f C_are_loose_rows hr rfl (pa_cons (pv 0) pa_nil)))) (pss_one ps_never) pss_nil)
    (pss_cons (ps_set (i := 1) sc_net_of.nd rfl (Or.inl rfl) (pe_f C_reduced hr rfl (pa_cons (pv 0) pa_nil)))
    (pss_cons (ps_if (pt_cmpR op_isN (pv 1) pe_non (nomark _)) (pss_one ps_never) pss_nil)
    (pss_cons (ps_set (i := 2) sc_net_of.nd rfl (Or.inl rfl) (pe_f C_numbered hr rfl (pa_cons (pv 0) (pa_cons (pe_ix ixt (pv 1) pe_int (fun _ _ => rfl)) (pa_cons (pe_ix ixt (pv 1) pe_int (fun _ _ => rfl)) pa_nil)))))
    (pss_cons (ps_if (pt_not (pt_val (pe_f C_is_net hr rfl (pa_cons (pv 2) pa_nil)))) (pss_one ps_never) pss_nil)
    (pss_one (ps_ret (pv 2)))))))), ?_⟩
  obtain ⟨v, N, rfl, hd, G, hT, q⟩ := hsp
  refine ⟨_, rfl, v, N, rfl, hd, G, fun H1 S1 => ⟨_, rfl, iteF ?_⟩⟩
  refine ⟨_, rfl, v, N, rfl, hd.up (Same.tk S1), G, fun H2 p d ls S2 hk hp => ?_⟩
  have S12 := Same.trans' S1 S2
  refine ⟨_, rfl, rfl, _, rfl, iteN (by simp) ?_⟩
  refine ⟨_, rfl, _, rfl, p, _, 0, _, rfl, rfl, hp, atI_nat (j := 0) rfl, _, rfl, p, _, 1, _, rfl, rfl, hp, atI_nat (j := 1) rfl, v, d, N, ls, rfl, hd.up (Same.tk S12), hk, G, hT.ext S12, fun H3 p3 N' π E3 hT3 hd3 I G' => ?_⟩
  refine ⟨_, rfl, .ref p3, N', rfl, hd3, G', fun H4 S4 => ⟨_, rfl, iteF ⟨_, rfl, ?_⟩⟩⟩
  exact q _ p3 N' π ((LamX.ExtN.of S12).trans (E3.trans (.of S4))) (hT3.ext S4) (hd3.up (Same.tk S4)) I G'
/-- all but l stays -/
def But (l : Addr) (H H' : Hp) : Prop := ∀ b o, b ≠ l → H b = some o → H' b = some o
def spTreeRows (h : Nat) : Sp := fun vs H Q _ => ∃ v l t ys, vs = [v, .ref l] ∧ DT H v (encT t) ∧ hT t < h ∧ H l = some (.lst ys) ∧ ys.length + szT t ≤ 1000 ∧
  ∀ H' zs, But l H H' → H' l = some (.lst (ys ++ zs)) → DTs H' zs ((rowsT ys.length t).map encR) → Q (natV ys.length) H'
theorem But.tk {l : Addr} {H H' : Hp} {ys : List V} (b : But l H H') (hl : H l = some (.lst ys)) : TK H H' := fun c u e t => b c u (fun z => by
  subst z
  rw [hl] at e
  cases e
  exact no_lst t) e
theorem c_tree_rows (T : Top mg) (D : Def K mg "tree_rows" "tree_rows" s_tree_rows) : ∀ h, Cal P w K mg base (h + 1) "tree_rows" (spTreeRows h)
  | 0 => dummy D sc_tree_rows (fun _ _ _ _ _ _ us hl => match us, hl with | [_, _], _ => rfl) fun _ _ _ _ ⟨_, _, _, _, _, _, h, _⟩ => Nat.not_lt_zero _ h
  | h + 1 => by
    have C_tree_rows : Cal P w K mg base (h + 1) "tree_rows" (spTreeRows h) := c_tree_rows T D h
    refine D.cal sc_tree_rows (fun _ _ _ _ _ _ us hl => match us, hl with | [_, _], _ => rfl) (fun vs H Q E h => ?_) fun f cdv A outer s H vs Q E hr hsp => ?_
    · obtain ⟨_, _, _, _, rfl, _⟩ := h; rfl
    refine ⟨_, (pss_cons (ps_set (i := 2) sc_tree_rows.nd rfl (Or.inl rfl) (pe_callB lenq rfl T.len PySem.boot_len (pa_cons (pv 1) pa_nil)))
    (pss_cons (ps_if (pt_val (pe_isi (T := "str") rfl T.isinstance rfl T.str (by decide +kernel) (pv 0))) (pss_one (ps_expr (pe_ml PySem.F.slot_list_append PySem.F.type_list_append mt_append (pv 1) (pa_cons (pe_tup (pa_cons pe_str (pa_cons (pv 0) pa_nil))) pa_nil)))) (pss_cons (ps_expr (pe_ml PySem.F.slot_list_append PySem.F.type_list_append mt_append (pv 1) (pa_cons pe_non pa_nil)))
    (pss_one (ps_asg (pe_tup (pa_cons pe_str (pa_cons (pe_callTy tupOf rfl T.tuple (by decide +kernel) (pa_cons (pe_lc (own := [("part", 3)]) (g := gName 3) (tt := tYes) rfl sc_tree_rows.nd (pi_tupK K (pv 0)) (blkOk_by (own := [("part", 3)]) (N := n_tree_rows) (sc := defScope s_tree_rows) (by decide +kernel)) (fun _ _ _ _ _ => (pg_name (i := 3) sc_tree_rows.nd rfl (Or.inl rfl))) (fun _ _ _ _ _ => pts_nil) (fun _ _ _ _ _ => (pe_f C_tree_rows hr rfl (pa_cons (pv 3) (pa_cons (pv 1) pa_nil))))) pa_nil)) pa_nil))) (pg_sub (pv 1) (pv 2) set_list)))))
    (pss_one (ps_ret (pv 2))))), ?_⟩
    obtain ⟨v, l, t, ys, rfl, hd, hh, hl, hsz, q⟩ := hsp
    refine ⟨_, rfl, l, ys, rfl, .inl hl, ?_⟩
    cases t with
    | leaf z =>
      rw [hd.of_str]
      have h1 : szT (.leaf z) = 1 := rfl
      refine ⟨_, rfl, _, _, .str z, k_ss, _, rfl, iteT ?_⟩
      refine ⟨_, rfl, ⟨l, _, rfl, hl⟩, _, rfl, small (show 2 ≤ 10000 by decide), fun r hr2 => ?_⟩
      have nrl : r ≠ l := fun z => by rw [z, hl] at hr2; cases hr2
      have hl2 : upd H r (.tup [.str "leaf", .str z]) l = some (.lst ys) := by rw [upd_ne (Ne.symm nrl)]; exact hl
      refine ⟨l, ys, .ref r, rfl, rfl, hl2, smallT (by omega), _, rfl, q _ [.ref r] (fun b o hb e => ?_) upd_same ?_⟩
      · rw [upd_ne hb, upd_ne (ne_of_none e hr2)]
        exact e
      · refine .cons ?_ .nil
        refine row_mk (r := .leaf z) (y := .str z) ?_ (.str z)
        rw [upd_ne nrl, upd_same]
        rfl
    | node ts =>
      obtain ⟨a, xs, rfl, ha, hs⟩ := DT.of_tup hd
      have hlen : xs.length = ts.length := hs.length.trans (encTs_length ts)
      have h1 : szT (.node ts) = szTs ts + 1 := rfl
      have nal : a ≠ l := fun z => by rw [z, hl] at ha; cases ha
      refine ⟨_, rfl, _, _, .tup ha, k_ts, _, rfl, iteF ?_⟩
      refine ⟨_, rfl, ⟨l, _, rfl, hl⟩, l, ys, .non, rfl, rfl, hl, smallT (by omega), ?_⟩
      have nxs := hs
      have hl1 : upd H l (.lst (ys ++ [V.non])) l = some (.lst (ys ++ [V.non])) := upd_same
      have B1 : But l H (upd H l (.lst (ys ++ [V.non]))) := fun b o hb e => by rw [upd_ne hb]; exact e
      generalize upd H l (.lst (ys ++ [V.non])) = H1 at hl1 B1 ⊢
      have ha1 := B1 _ _ nal ha
      refine ⟨_, rfl, a, rfl, ⟨xs, sq_at ha1⟩, fun D hD => ?_⟩
      have nDl : D ≠ l := fun z => by rw [z, hl1] at hD; cases hD
      have tkl : ∀ {i : Nat} {t : Tree}, ts[i]? = some t → rowsTs (ys.length + 1) (ts.take (i + 1)) = rowsTs (ys.length + 1) (ts.take i) ++ rowsT (ys.length + 1 + szTs (ts.take i)) t ∧ starts (ys.length + 1) (ts.take (i + 1)) = starts (ys.length + 1) (ts.take i) ++ [ys.length + 1 + szTs (ts.take i)] ∧ szTs (ts.take (i + 1)) = szTs (ts.take i) + szT t := fun {i t} e => by
        have et : ts.take (i + 1) = ts.take i ++ [t] := by rw [List.take_add_one, e]; rfl
        rw [et]
        refine ⟨?_, ?_, ?_⟩
        · rw [rowsTs_app]
          simp [rowsTs]
        · rw [starts_app]
          simp [starts]
        · rw [szTs_app]
          simp [szTs]
      have szle : ∀ i, szTs (ts.take i) ≤ szTs ts := fun i => by
        have := szTs_app (ts.take i) (ts.drop i)
        rw [List.take_append_drop] at this
        omega
      refine lc_gen (n := xs.length) (fun i H2 => But l H1 H2 ∧ ∃ zs, H2 l = some (.lst (ys ++ [V.non] ++ zs)) ∧ DTs H2 zs ((rowsTs (ys.length + 1) (ts.take i)).map encR) ∧ H2 D = some (.lst ((starts (ys.length + 1) (ts.take i)).map natV)))
        ⟨fun b o hb e => by rw [upd_ne (ne_of_none e hD)]; exact e, [], by rw [upd_ne (Ne.symm nDl), List.append_nil]; exact hl1, .nil, upd_same⟩ (fun i H2 hi ⟨B, _⟩ => go_tup (B _ _ nal ha1) hi) (fun H2 ⟨B, _⟩ => st_tup (B _ _ nal ha1) (Nat.le_refl _)) (fun i H2 x H3 hi ⟨B2, zs, hl2, hzs, hD2⟩ hy => ?_) fun H2 ⟨B2, zs, hl2, hzs, hD2⟩ => ?_
      · obtain ⟨rfl, hx⟩ := hy
        obtain ⟨t, e2, tm, hd1⟩ := part_at hs (hx xs (sq_at (B2 _ _ nal ha1)))
        have ht1 := hTs_le tm
        have hh' : hTs ts + 1 < h + 1 := hh
        have zl : zs.length = szTs (ts.take i) := by rw [hzs.length, List.length_map, rowsTs_len]
        obtain ⟨k1, k2, k3⟩ := tkl e2
        have ksz := szle (i + 1)
        have ylen : (ys ++ [V.non] ++ zs).length = ys.length + 1 + szTs (ts.take i) := by
          rw [List.length_append, List.length_append, zl]
          rfl
        refine ⟨rfl, _, rfl, _, rfl, x, l, t, _, rfl, hd1.up (TK.trans (But.tk B1 hl) (But.tk B2 hl1)), by omega, hl2, by rw [ylen]; omega, fun H4 zs2 B4 hl4 hzs2 => ?_⟩
        have hD4 := B4 _ _ nDl hD2
        refine ⟨_, hD4, ?_, fun b o hb e => ?_, zs ++ zs2, ?_, ?_, ?_⟩
        · rw [List.length_map, starts_len, List.length_take]
          have : ts.length ≤ szTs ts := by
            have : ∀ us : List Tree, us.length ≤ szTs us := fun us => by
              induction us with
              | nil => exact Nat.zero_le _
              | cons u us ih =>
                have := szT_pos u
                simp only [List.length_cons, szTs]
                omega
            exact this ts
          exact smallT (by omega)
        · rw [upd_ne (ne_of_none e hD)]
          exact B4 _ _ hb (B2 _ _ hb e)
        · rw [upd_ne (Ne.symm nDl), hl4]
          simp
        · have tkD : TK H4 (upd H4 D (.lst ((starts (ys.length + 1) (ts.take i)).map natV ++ [natV (ys ++ [V.non] ++ zs).length]))) := tk_set hD4 no_lst
          rw [k1, List.map_append]
          rw [ylen] at hzs2
          have app : ∀ {as bs : List V} {ds es : List PyData} {G : Hp}, DTs G as ds → DTs G bs es → DTs G (as ++ bs) (ds ++ es) := by
            intro as bs ds es G h1 h2
            induction ds generalizing as with
            | nil => cases h1; exact h2
            | cons d ds ih =>
              cases h1 with
              | cons h t => exact .cons h (ih t)
          exact app (hzs.up (TK.trans (But.tk B4 hl2) tkD)) (hzs2.up tkD)
        · rw [upd_same, k2, List.map_append, ylen]
          rfl
      · rw [hlen, List.take_length] at hzs hD2
        have B02 : But l H H2 := fun b o hb e => B2 _ _ hb (B1 _ _ hb e)
        refine ⟨D, _, rfl, hD2, fun p np => ⟨small (show 2 ≤ 10000 by decide), fun r hr2 => ?_⟩⟩
        have npl : p ≠ l := fun z => by rw [z, hl2] at np; cases np
        have nrl : r ≠ l := fun z => by rw [z, upd_ne (Ne.symm npl), hl2] at hr2; cases hr2
        have nrp : r ≠ p := fun z => by rw [z, upd_same] at hr2; cases hr2
        have hl3 : upd (upd H2 p (.tup ((starts (ys.length + 1) ts).map natV))) r (.tup [.str "fork", .ref p]) l = some (.lst (ys ++ [V.non] ++ zs)) := by
          rw [upd_ne (Ne.symm nrl), upd_ne (Ne.symm npl)]
          exact hl2
        have eset : (ys ++ [V.non] ++ zs).set ys.length (.ref r) = ys ++ (.ref r :: zs) := by
          rw [List.append_assoc, List.set_append_right _ _ (Nat.le_refl _), Nat.sub_self]
          rfl
        have ix : ixN (ys ++ [V.non] ++ zs).length ((ys.length : Nat) : Int) = some ys.length := by
          unfold ixN
          rw [if_pos (by omega), if_pos (by simp; omega)]
          simp
        refine ⟨_, rfl, _, rfl, l, _, (ys.length : Int), ys.length, rfl, rfl, hl3, ix, ?_⟩
        rw [eset]
        have S3 : ∀ b o, b ≠ l → H2 b = some o → upd (upd (upd H2 p (.tup ((starts (ys.length + 1) ts).map natV))) r (.tup [.str "fork", .ref p])) l (.lst (ys ++ (.ref r :: zs))) b = some o := fun b o hb e => by
          rw [upd_ne hb, upd_ne (ne_of_none ((same_upd np) _ _ e) hr2), upd_ne (ne_of_none e np)]
          exact e
        refine ⟨_, rfl, q _ (.ref r :: zs) (fun b o hb e => S3 b o hb (B02 _ _ hb e)) upd_same (.cons ?_ ?_)⟩
        · refine row_mk (r := .fork (starts (ys.length + 1) ts)) (y := .ref p) ?_ (.tup ?_ (DTs.nats _))
          · rw [upd_ne nrl, upd_same]
            rfl
          · rw [upd_ne npl, upd_ne (Ne.symm nrp), upd_same]
        · exact hzs.up (But.tk S3 hl2)
def spNetOfTree (PT : Addr) : Sp := fun vs H Q _ => ∃ v t, vs = [v] ∧ DT H v (encT t) ∧ TOk t ∧ (namesT t).Nodup ∧ (namesT t).length ≤ 10 ∧ (∀ n ∈ namesT t, NameOk n) ∧ LamX.Tabs (lamT PT) H ∧
  ∀ H' p N', LamX.ExtN H H' → LamX.Tabs (lamT PT) H' → DT H' (.ref p) (encN N') → Good N' → Rep N' 0 t → joins N' = [] → (∀ a, a ∈ names N' ↔ a ∈ namesT t) → Q (.ref p) H'
theorem c_net_of_tree {PT : Addr} (T : Top mg) (D : Def K mg "net_of_tree" "net_of_tree" s_net_of_tree) (C_tree_rows : ∀ h, Cal P w K mg base (h + 1) "tree_rows" (spTreeRows h)) (C_net_of : Cal P w K mg base 7 "net_of" (spNetOf PT)) : Cal P w K mg base 15 "net_of_tree" (spNetOfTree PT) := by
  have C_tree_rows := (C_tree_rows 11).mono (show 12 ≤ 14 by decide)
  have C_net_of := C_net_of.mono (show 7 ≤ 14 by decide)
  refine D.cal sc_net_of_tree (fun _ _ _ _ _ _ us hl => match us, hl with | [_], _ => rfl) (fun vs H Q E h => ?_) fun f cdv A outer s H vs Q E hr hsp => ?_
  · obtain ⟨_, _, rfl, _⟩ := h; rfl
  refine ⟨_, (pss_cons (ps_set (i := 1) sc_net_of_tree.nd rfl (Or.inl rfl) (pe_lst pa_nil))
    (pss_cons (ps_expr (pe_f C_tree_rows hr rfl (pa_cons (pv 0) (pa_cons (pv 1) pa_nil))))
    (pss_one (ps_ret (pe_f C_net_of hr rfl (pa_cons (pe_callTy tupOf rfl T.tuple (by decide +kernel) (pa_cons (pv 1) pa_nil)) pa_nil)))))), ?_⟩
  obtain ⟨v, t, rfl, hd, hok, nd, few, hn, hT, q⟩ := hsp
  have hh := TOk.height t hok
  have hz := szT_le t (TOk.bin t hok)
  refine ⟨Nat.zero_le _, fun l hl => ?_⟩
  have S1 : Same H (upd H l (.lst [])) := same_upd hl
  have hl1 : upd H l (.lst []) l = some (.lst []) := upd_same
  generalize upd H l (.lst []) = H1 at S1 hl1 ⊢
  refine ⟨_, rfl, _, rfl, v, l, t, [], rfl, hd.up (Same.tk S1), by omega, hl1, by simp; omega, fun H2 zs B2 hl2 hzs => ?_⟩
  have S2 : Same H H2 := fun b o e => B2 _ _ (fun z => by rw [z, hl] at e; cases e) (S1 _ _ e)
  have G := goodT (TOk.bin t hok) nd few hn
  refine ⟨_, rfl, l, zs, rfl, hl2, fun p np => ?_⟩
  have S3 := Same.trans' S2 (same_upd (o := .tup zs) np)
  refine ⟨.ref p, rowsT 0 t, rfl, .tup upd_same (hzs.up (tk_new np)), G.toLoose, hT.ext S3, fun H4 p4 N' π E4 hT4 hd4 I G' => ?_⟩
  have rep : Rep (rowsT 0 t) 0 t := repT t _ 0 fun i r e => by rw [Nat.zero_add]; exact e
  have rep' := rep.iso I
  rw [I.zero] at rep'
  refine q _ p4 N' ((LamX.ExtN.of S3).trans E4) hT4 hd4 G' rep' ?_ fun a => ?_
  · have e0 : joins (rowsT 0 t) = [] := by
      unfold joins
      rw [List.filter_eq_nil_iff]
      intro i hi
      obtain ⟨r, er⟩ := row_ex (N := rowsT 0 t) (List.mem_range.mp hi)
      rw [er]
      have := noJoinT 0 t _ (List.mem_of_getElem? er)
      simp [this]
    have z := len_of I (joins_nodup _) (joins_nodup N') joins_lt (fun x hx => by rw [← I.len]; exact joins_lt x hx) fun x hx => I.isJoin hx
    rw [e0] at z
    exact List.length_eq_zero_iff.mp z
  · rw [I.mem_names, names_rowsT]
end
end JT
/-! Mat8: elders, roads, choices. -/
namespace JT
open PySem PySem.Spec PyProof.Rows L2 PySem.W
/-- x is i elders above j -/
inductive Up (e : Nat → Nat) : Nat → Nat → Nat → Prop
  | refl (j : Nat) : Up e j 0 j
  | step {j i x : Nat} : j ≠ 0 → Up e (e j) i x → Up e j (i + 1) x
/-- e tells an elder of each row but the first -/
def Elder (N : Net) (e : Nat → Nat) : Prop := ∀ k, 0 < k → k < N.length → k ∈ kidsAt N (e k)
/-- the elder of k by the choice c -/
def elder (N : Net) (c : List Nat) (k : Nat) : Nat := if k ∈ joins N then (ways N k).getD (c.getD ((joins N).idxOf k) 0) 0 else (ways N k).getD 0 0
structure ChOk (N : Net) (c : List Nat) : Prop where
  len : c.length = (joins N).length
  bit : ∀ b ∈ c, b < 2
theorem mem_joins {M : Net} {j : Nat} : j ∈ joins M ↔ ∃ k, M[j]? = some (Row.join k) := by
  unfold joins
  rw [List.mem_filter, List.mem_range]
  constructor
  · rintro ⟨h, e⟩
    obtain ⟨r, er⟩ := row_ex h
    rw [er] at e
    cases r with
    | join k => exact ⟨k, er⟩
    | leaf s => cases e
    | fork ks => cases e
  · rintro ⟨k, e⟩
    refine ⟨(List.getElem?_eq_some_iff.mp e).1, ?_⟩
    rw [e]
    rfl
theorem due_join {N : Net} (G : Loose N) {k : Nat} (h : k ∈ joins N) : dueWays N k = 2 := by
  obtain ⟨j, e⟩ := mem_joins.mp h
  unfold dueWays
  rw [if_neg (fun z => by subst z; exact G.root j e), e]
theorem due_one {N : Net} {k : Nat} (h0 : 0 < k) (h : k ∉ joins N) : dueWays N k = 1 := by
  unfold dueWays
  rw [if_neg (by omega)]
  split
  · rename_i j e
    exact absurd (mem_joins.mpr ⟨j, e⟩) h
  · rfl
theorem elder_ok {N : Net} (G : Loose N) {c : List Nat} (C : ChOk N c) : Elder N (elder N c) := by
  intro k h0 hk
  have hl := G.led k hk
  unfold elder
  by_cases h : k ∈ joins N
  · rw [if_pos h]
    rw [due_join G h] at hl
    have hi : (joins N).idxOf k < c.length := by rw [C.len]; exact List.idxOf_lt_length_iff.mpr h
    have hb : c.getD ((joins N).idxOf k) 0 < 2 := by
      rw [List.getD_eq_getElem?_getD, List.getElem?_eq_getElem hi]
      exact C.bit _ (List.getElem_mem hi)
    rw [List.getD_eq_getElem?_getD, List.getElem?_eq_getElem (show c.getD ((joins N).idxOf k) 0 < (ways N k).length by omega)]
    exact mem_ways.mp (List.getElem_mem _)
  · rw [if_neg h]
    rw [due_one h0 h] at hl
    rw [List.getD_eq_getElem?_getD, List.getElem?_eq_getElem (show 0 < (ways N k).length by omega)]
    exact mem_ways.mp (List.getElem_mem _)
section
variable {N : Net} {e : Nat → Nat}
theorem Elder.lt (E : Elder N e) (G : Good N) {k : Nat} (h0 : 0 < k) (hk : k < N.length) : e k < k := G.down _ _ (E k h0 hk)
theorem Up.dn (E : Elder N e) (G : Good N) {j i x : Nat} (h : Up e j i x) (hj : j < N.length) : Dn N x i j ∧ x + i ≤ j := by
  induction h with
  | refl j => exact ⟨.refl j, Nat.le_refl _⟩
  | step h0 _ ih =>
    rename_i j i x _
    have hp : 0 < j := by omega
    have hl := E.lt G hp hj
    obtain ⟨d, l⟩ := ih (by omega)
    exact ⟨d.snoc (E j hp hj), by omega⟩
theorem Up.det {j i x y : Nat} (h : Up e j i x) (h' : Up e j i y) : x = y := by
  induction h with
  | refl j => cases h'; rfl
  | step _ _ ih =>
    cases h' with
    | step _ b => exact ih b
theorem Up.split {j i k x y : Nat} (h : Up e j i x) (h' : Up e j (i + k) y) : Up e x k y := by
  induction h with
  | refl j => rw [Nat.zero_add] at h'; exact h'
  | step _ _ ih =>
    rename_i j i x _ _
    rw [show i + 1 + k = (i + k) + 1 by omega] at h'
    cases h' with
    | step _ b => exact ih b
theorem Up.app {j i k x y : Nat} (h : Up e j i x) (h' : Up e x k y) : Up e j (i + k) y := by
  induction h with
  | refl j => rw [Nat.zero_add]; exact h'
  | step h0 _ ih =>
    rename_i j i x _
    have := Up.step h0 (ih h')
    rw [show i + 1 + k = (i + k) + 1 by omega]
    exact this
/-- higher up is less -/
theorem Up.less (E : Elder N e) (G : Good N) {j i k x y : Nat} (hj : j < N.length) (h : Up e j i x) (h' : Up e j k y) (hik : i < k) : y < x := by
  have s := Up.split (k := k - i) h (by rw [show i + (k - i) = k by omega]; exact h')
  have hx := (h.dn E G hj).2
  have := (s.dn E G (by omega)).2
  omega
theorem Up.same (E : Elder N e) (G : Good N) {j i k x : Nat} (hj : j < N.length) (h : Up e j i x) (h' : Up e j k x) : i = k := by
  rcases Nat.lt_trichotomy i k with q | q | q
  · have := Up.less E G hj h h' q
    omega
  · exact q
  · have := Up.less E G hj h' h q
    omega
theorem Up.ge (E : Elder N e) (G : Good N) {j i k x y : Nat} (hj : j < N.length) (h : Up e j i x) (h' : Up e j k y) (hxy : y ≤ x) : i ≤ k := by
  rcases Nat.lt_or_ge k i with q | q
  · have := Up.less E G hj h' h q
    omega
  · exact q
theorem Up.top (E : Elder N e) (G : Good N) : ∀ j, j < N.length → ∃ i, Up e j i 0 := by
  intro j
  induction j using Nat.strongRecOn with
  | ind j ih =>
    intro hj
    by_cases h0 : j = 0
    · subst h0
      exact ⟨0, .refl 0⟩
    · have hl := E.lt G (show 0 < j by omega) hj
      obtain ⟨i, u⟩ := ih (e j) hl (by omega)
      exact ⟨i + 1, .step h0 u⟩
end
/-- a and b meet first after i steps from a, k from b; m in all -/
def Btw (N : Net) (e : Nat → Nat) (a b : Str) (m : Nat) : Prop := ∃ ja jb i k x, N[ja]? = some (Row.leaf a) ∧ N[jb]? = some (Row.leaf b) ∧ Up e ja i x ∧ Up e jb k x ∧ m = i + k ∧ ∀ i' k' x', Up e ja i' x' → Up e jb k' x' → i ≤ i'
theorem Btw.unique {N : Net} {e : Nat → Nat} (E : Elder N e) (G : Good N) {a b : Str} {m n : Nat} (h : Btw N e a b m) (h' : Btw N e a b n) : m = n := by
  obtain ⟨ja, jb, i, k, x, h1, h2, u1, u2, rfl, mn⟩ := h
  obtain ⟨ja', jb', i', k', x', g1, g2, v1, v2, rfl, mn'⟩ := h'
  have e1 := names_inj G.nd ja ja' a h1 g1
  have e2 := names_inj G.nd jb jb' b h2 g2
  subst e1 e2
  have hi : i = i' := Nat.le_antisymm (mn _ _ _ v1 v2) (mn' _ _ _ u1 u2)
  subst hi
  have hx := u1.det v1
  subst hx
  rw [u2.same E G (List.getElem?_eq_some_iff.mp h2).1 v2]
theorem Btw.least {N : Net} {e : Nat → Nat} (E : Elder N e) (G : Good N) {a b : Str} {m d : Nat} (h : Btw N e a b m) (hd : IsDist N a b d) : d ≤ m := by
  obtain ⟨ja, jb, i, k, x, h1, h2, u1, u2, rfl, _⟩ := h
  exact hd.least x i k ⟨ja, h1, (u1.dn E G (List.getElem?_eq_some_iff.mp h1).1).1⟩ ⟨jb, h2, (u2.dn E G (List.getElem?_eq_some_iff.mp h2).1).1⟩
/-- by elders above both: no more than their steps -/
theorem btw_le {N : Net} {e : Nat → Nat} (E : Elder N e) (G : Good N) {a b : Str} {m ja jb l l' r : Nat} (h : Btw N e a b m) (h1 : N[ja]? = some (Row.leaf a)) (h2 : N[jb]? = some (Row.leaf b)) (u : Up e ja l r) (v : Up e jb l' r) : m ≤ l + l' := by
  obtain ⟨ja', jb', i, k, x, g1, g2, u1, u2, rfl, mn⟩ := h
  have e1 := names_inj G.nd ja ja' a h1 g1
  have e2 := names_inj G.nd jb jb' b h2 g2
  subst e1 e2
  have hja := (List.getElem?_eq_some_iff.mp h1).1
  have hjb := (List.getElem?_eq_some_iff.mp h2).1
  have hi := mn _ _ _ u v
  have hx : r ≤ x := by
    rcases Nat.lt_or_ge i l with q | q
    · exact Nat.le_of_lt (Up.less E G hja u1 u q)
    · have : i = l := by omega
      subst this
      rw [u1.det u]
      exact Nat.le_refl _
  have := Up.ge E G hjb u2 v hx
  omega
/-! ### a path by its rows -/
theorem path_of {N : Net} {r l j : Nat} (h : Dn N r l j) : ∃ p : Nat → Nat, p 0 = r ∧ p l = j ∧ ∀ i, i < l → p (i + 1) ∈ kidsAt N (p i) := by
  induction h with
  | refl i => exact ⟨fun _ => i, rfl, rfl, fun i h => absurd h (Nat.not_lt_zero _)⟩
  | step a _ ih =>
    rename_i r k l j _
    obtain ⟨p, h0, h1, hs⟩ := ih
    refine ⟨fun i => match i with | 0 => r | i + 1 => p i, rfl, h1, fun i hi => ?_⟩
    cases i with
    | zero =>
      show p 0 ∈ kidsAt N r
      rw [h0]
      exact a
    | succ i => exact hs i (by omega)
theorem path_part {N : Net} {p : Nat → Nat} {l : Nat} (hs : ∀ i, i < l → p (i + 1) ∈ kidsAt N (p i)) : ∀ d i, i + d = l → Dn N (p i) d (p l)
  | 0, i, h => by
    have : i = l := by omega
    subst this
    exact .refl _
  | d + 1, i, h => .step (hs i (by omega)) (path_part hs d (i + 1) (by omega))
theorem path_up {N : Net} {p : Nat → Nat} {l : Nat} {e : Nat → Nat} (G : Good N) (hs : ∀ i, i < l → p (i + 1) ∈ kidsAt N (p i)) (he : ∀ i, i < l → e (p (i + 1)) = p i) : ∀ i, i ≤ l → Up e (p i) i (p 0)
  | 0, _ => .refl _
  | i + 1, h => by
    have hd := G.down _ _ (hs i (by omega))
    refine .step (by omega) ?_
    rw [he i (by omega)]
    exact path_up G hs he i (by omega)
theorem path_rise {N : Net} {p : Nat → Nat} {l : Nat} (G : Good N) (hs : ∀ i, i < l → p (i + 1) ∈ kidsAt N (p i)) : ∀ i d, i + d ≤ l → p i + d ≤ p (i + d)
  | i, 0, _ => Nat.le_refl _
  | i, d + 1, h => by
    have h1 := path_rise G hs i d (by omega)
    have h2 := G.down _ _ (hs (i + d) (by omega))
    rw [show i + (d + 1) = i + d + 1 by omega]
    omega
open Classical in
/-- elders that lead up both shortest paths -/
theorem best_elder {N : Net} (G : Good N) {a b : Str} {m : Nat} (h : IsDist N a b m) : ∃ e, Elder N e ∧ ∃ ja jb l l' r, N[ja]? = some (Row.leaf a) ∧ N[jb]? = some (Row.leaf b) ∧ Up e ja l r ∧ Up e jb l' r ∧ m = l + l' := by
  obtain ⟨r, l, l', ⟨ja, hja, d1⟩, ⟨jb, hjb, d2⟩, em⟩ := h.ex
  obtain ⟨p, p0, pl, ps⟩ := path_of d1
  obtain ⟨q, q0, ql, qs⟩ := path_of d2
  have disj : ∀ i k, i < l → k < l' → p (i + 1) ≠ q (k + 1) := fun i k hi hk z => by
    have x1 := path_part ps (l - (i + 1)) (i + 1) (by omega)
    have x2 := path_part qs (l' - (k + 1)) (k + 1) (by omega)
    rw [pl] at x1
    rw [ql, ← z] at x2
    have := h.least (p (i + 1)) _ _ ⟨ja, hja, x1⟩ ⟨jb, hjb, x2⟩
    omega
  have pinj : ∀ i k, i < l → k < l → p (i + 1) = p (k + 1) → i = k := fun i k hi hk z => by
    rcases Nat.lt_trichotomy i k with t | t | t
    · have := path_rise G ps (i + 1) (k - i) (by omega)
      rw [show i + 1 + (k - i) = k + 1 by omega] at this
      omega
    · exact t
    · have := path_rise G ps (k + 1) (i - k) (by omega)
      rw [show k + 1 + (i - k) = i + 1 by omega] at this
      omega
  have qinj : ∀ i k, i < l' → k < l' → q (i + 1) = q (k + 1) → i = k := fun i k hi hk z => by
    rcases Nat.lt_trichotomy i k with t | t | t
    · have := path_rise G qs (i + 1) (k - i) (by omega)
      rw [show i + 1 + (k - i) = k + 1 by omega] at this
      omega
    · exact t
    · have := path_rise G qs (k + 1) (i - k) (by omega)
      rw [show k + 1 + (i - k) = i + 1 by omega] at this
      omega
  let e : Nat → Nat := fun k => if z : ∃ i, i < l ∧ p (i + 1) = k then p z.choose else if z : ∃ i, i < l' ∧ q (i + 1) = k then q z.choose else (ways N k).getD 0 0
  have ep : ∀ i, i < l → e (p (i + 1)) = p i := fun i hi => by
    have z : ∃ i', i' < l ∧ p (i' + 1) = p (i + 1) := ⟨i, hi, rfl⟩
    show (if z : ∃ i', i' < l ∧ p (i' + 1) = p (i + 1) then p z.choose else _) = p i
    rw [dif_pos z]
    have := z.choose_spec
    rw [pinj _ _ this.1 hi this.2]
  have eq : ∀ i, i < l' → e (q (i + 1)) = q i := fun i hi => by
    have z0 : ¬ ∃ i', i' < l ∧ p (i' + 1) = q (i + 1) := fun ⟨i', h1, h2⟩ => disj i' i h1 hi h2
    have z : ∃ i', i' < l' ∧ q (i' + 1) = q (i + 1) := ⟨i, hi, rfl⟩
    show (if z : ∃ i', i' < l ∧ p (i' + 1) = q (i + 1) then _ else if z : ∃ i', i' < l' ∧ q (i' + 1) = q (i + 1) then q z.choose else _) = q i
    rw [dif_neg z0, dif_pos z]
    have := z.choose_spec
    rw [qinj _ _ this.1 hi this.2]
  refine ⟨e, fun k h0 hk => ?_, ja, jb, l, l', r, hja, hjb, ?_, ?_, em⟩
  · show k ∈ kidsAt N (if z : ∃ i, i < l ∧ p (i + 1) = k then p z.choose else if z : ∃ i, i < l' ∧ q (i + 1) = k then q z.choose else (ways N k).getD 0 0)
    by_cases z : ∃ i, i < l ∧ p (i + 1) = k
    · rw [dif_pos z]
      have s := z.choose_spec
      have := ps _ s.1
      rw [s.2] at this
      exact this
    · rw [dif_neg z]
      by_cases z : ∃ i, i < l' ∧ q (i + 1) = k
      · rw [dif_pos z]
        have s := z.choose_spec
        have := qs _ s.1
        rw [s.2] at this
        exact this
      · rw [dif_neg z]
        have hl := G.led k hk
        have := due_pos (N := N) h0
        rw [List.getD_eq_getElem?_getD, List.getElem?_eq_getElem (show 0 < (ways N k).length by omega)]
        exact mem_ways.mp (List.getElem_mem _)
  · have := path_up G ps ep l (Nat.le_refl _)
    rw [p0, pl] at this
    exact this
  · have := path_up G qs eq l' (Nat.le_refl _)
    rw [q0, ql] at this
    exact this
/-- elders are chosen by a choice -/
theorem choice_of {N : Net} (G : Loose N) {e : Nat → Nat} (E : Elder N e) : ∃ c, ChOk N c ∧ ∀ k, 0 < k → k < N.length → elder N c k = e k := by
  refine ⟨(joins N).map fun k => (ways N k).idxOf (e k), ⟨by rw [List.length_map], fun b hb => ?_⟩, fun k h0 hk => ?_⟩
  · obtain ⟨k, hk, rfl⟩ := List.mem_map.mp hb
    have hkn := joins_lt k hk
    have h0 : 0 < k := by
      obtain ⟨j, ej⟩ := mem_joins.mp hk
      rcases Nat.eq_zero_or_pos k with z | z
      · subst z
        exact absurd ej (G.root j)
      · exact z
    have := List.idxOf_lt_length_iff.mpr (mem_ways.mpr (E k h0 hkn))
    rw [G.led k hkn, due_join G hk] at this
    exact this
  · have hm := mem_ways.mpr (E k h0 hk)
    have hil := List.idxOf_lt_length_iff.mpr hm
    unfold elder
    by_cases h : k ∈ joins N
    · rw [if_pos h]
      have hi : (joins N).idxOf k < (joins N).length := List.idxOf_lt_length_iff.mpr h
      have e1 : ((joins N).map fun k => (ways N k).idxOf (e k)).getD ((joins N).idxOf k) 0 = (ways N k).idxOf (e k) := by
        rw [List.getD_eq_getElem?_getD, List.getElem?_map, List.getElem?_eq_getElem hi, List.getElem_idxOf hi]
        rfl
      rw [e1, List.getD_eq_getElem?_getD, List.getElem?_eq_getElem hil, List.getElem_idxOf hil]
      rfl
    · rw [if_neg h]
      have hl := G.led k hk
      rw [due_one h0 h] at hl
      obtain ⟨x, ex⟩ := List.length_eq_one_iff.mp hl
      rw [ex] at hm ⊢
      have : e k = x := by simpa using hm
      rw [this]
      rfl
theorem Up.congr {N : Net} {e f : Nat → Nat} (E : Elder N e) (G : Good N) (h : ∀ k, 0 < k → k < N.length → f k = e k) {j i x : Nat} (u : Up e j i x) (hj : j < N.length) : Up f j i x := by
  induction u with
  | refl j => exact .refl j
  | step h0 _ ih =>
    rename_i j i x _
    have hl := E.lt G (show 0 < j by omega) hj
    refine .step h0 ?_
    rw [h j (by omega) hj]
    exact ih (by omega)
/-- some choice is as good as the best -/
theorem best_choice {N : Net} (G : Good N) {a b : Str} {m : Nat} (h : IsDist N a b m) : ∃ c, ChOk N c ∧ ∀ m', Btw N (elder N c) a b m' → m' ≤ m := by
  obtain ⟨e, E, ja, jb, l, l', r, h1, h2, u, v, em⟩ := best_elder G h
  obtain ⟨c, C, hc⟩ := choice_of G.toLoose E
  have E2 := elder_ok G.toLoose C
  refine ⟨c, C, fun m' hm' => ?_⟩
  rw [em]
  exact btw_le E2 G hm' h1 h2 (u.congr E G hc (List.getElem?_eq_some_iff.mp h1).1) (v.congr E G hc (List.getElem?_eq_some_iff.mp h2).1)
/-- a tree's rows: the only choice tells the distance -/
theorem btw_tree {N : Net} (G : Good N) (hj : joins N = []) {a b : Str} {m : Nat} (h : Btw N (elder N []) a b m) {d : Nat} (hd : IsDist N a b d) : m = d := by
  obtain ⟨c, C, hc⟩ := best_choice G hd
  have ec : c = [] := by
    have := C.len
    rw [hj] at this
    exact List.length_eq_zero_iff.mp this
  subst ec
  exact Nat.le_antisymm (hc m h) (h.least (elder_ok G.toLoose C) G hd)
end JT
/-! L1: choices. -/
namespace JT
open PySem PySem.Spec PyProof.Rows L2 PySem.W
abbrev s__law_choices : Stmt := topS 71
abbrev n__law_choices : List Str := ["_law_net_here", "_law_found", "_law_join", "_law_longer", "_law_one"]
theorem sc__law_choices : FnScope n__law_choices ["_law_net_here"] (defScope s__law_choices) :=
  ⟨rfl, rfl, rfl, by decide +kernel, rfl, by decide +kernel, by decide +kernel⟩
def allBits : Nat → List (List Nat)
  | 0 => [[]]
  | n + 1 => (allBits n).flatMap fun c => [c ++ [0], c ++ [1]]
theorem mem_allBits : ∀ {n : Nat} {c : List Nat}, c ∈ allBits n ↔ c.length = n ∧ ∀ b ∈ c, b < 2
  | 0, c => by
    simp only [allBits, List.mem_singleton]
    constructor
    · intro h; subst h; simp
    · intro h; exact List.length_eq_zero_iff.mp h.1
  | n + 1, c => by
    simp only [allBits, List.mem_flatMap]
    constructor
    · rintro ⟨d, hd, h⟩
      obtain ⟨h1, h2⟩ := mem_allBits.mp hd
      simp only [List.mem_cons, List.not_mem_nil, or_false] at h
      rcases h with h | h <;> subst h
      · refine ⟨by simp [h1], fun b hb => ?_⟩
        rcases List.mem_append.mp hb with hb | hb
        · exact h2 b hb
        · rw [List.mem_singleton.mp hb]; decide
      · refine ⟨by simp [h1], fun b hb => ?_⟩
        rcases List.mem_append.mp hb with hb | hb
        · exact h2 b hb
        · rw [List.mem_singleton.mp hb]; decide
    · rintro ⟨h1, h2⟩
      rcases List.eq_nil_or_concat c with e | ⟨d, b, e⟩
      · subst e; simp at h1
      · rw [List.concat_eq_append] at e
        subst e
        refine ⟨d, mem_allBits.mpr ⟨by simpa using h1, fun x hx => h2 x (by simp [hx])⟩, ?_⟩
        have hb := h2 b (by simp)
        have : b = 0 ∨ b = 1 := by omega
        rcases this with e | e <;> subst e <;> simp
theorem allBits_len : ∀ n, (allBits n).length = 2 ^ n
  | 0 => rfl
  | n + 1 => by
    have : ∀ l : List (List Nat), (l.flatMap fun c => [c ++ [0], c ++ [1]]).length = 2 * l.length := fun l => by
      induction l with
      | nil => rfl
      | cons c l ih =>
        rw [List.flatMap_cons, List.length_append, ih]
        simp
        omega
    show ((allBits n).flatMap fun c => [c ++ [0], c ++ [1]]).length = 2 ^ (n + 1)
    rw [this, allBits_len n, Nat.pow_succ]
    omega
def encC (c : List Nat) : PyData := .tuple (c.map natD)
section
variable {P : Program} {w : World} {K : PySem.W.Frag} {mg : Str → Option Value} {base : Heap}
theorem c_at {H : Hp} {v : V} {c : List Nat} (h : DT H v (encC c)) : ∃ a, v = .ref a ∧ H a = some (.tup (c.map natV)) := by
  obtain ⟨a, xs, rfl, ha, hs⟩ := DT.of_tup h
  rw [hs.of_nats] at ha
  exact ⟨a, rfl, ha⟩
theorem c_mk {H : Hp} {a : Addr} {c : List Nat} (h : H a = some (.tup (c.map natV))) : DT H (.ref a) (encC c) := .tup h (DTs.nats c)
def spChoices : Sp := fun vs H Q _ => ∃ v N, vs = [v] ∧ DT H v (encN N) ∧ N.length ≤ 60 ∧ (joins N).length ≤ 6 ∧ ∀ H' p xs, Same H H' → H' p = some (.lst xs) → DTs H' xs ((allBits (joins N).length).map encC) → Q (.ref p) H'
theorem app_dts {as bs : List V} {ds es : List PyData} {G : Hp} (h1 : DTs G as ds) (h2 : DTs G bs es) : DTs G (as ++ bs) (ds ++ es) := by
  induction ds generalizing as with
  | nil => cases h1; exact h2
  | cons d ds ih =>
    cases h1 with
    | cons h t => exact .cons h (ih t)
theorem two_take (l : List (List Nat)) {i : Nat} {c : List Nat} (h : l[i]? = some c) : (l.take (i + 1)).flatMap (fun c => [c ++ [0], c ++ [1]]) = (l.take i).flatMap (fun c => [c ++ [0], c ++ [1]]) ++ [c ++ [0], c ++ [1]] := by
  rw [List.take_add_one, h, List.flatMap_append]
  simp
theorem two_len (l : List (List Nat)) : (l.flatMap fun c => [c ++ [0], c ++ [1]]).length = 2 * l.length := by
  induction l with
  | nil => rfl
  | cons c l ih =>
    rw [List.flatMap_cons, List.length_append, ih]
    simp
    omega
theorem bits_small {n : Nat} (h : n ≤ 6) : (allBits n).length ≤ 64 := by
  rw [allBits_len]
  exact Nat.le_trans (Nat.pow_le_pow_right (by decide) h) (by decide)
theorem c__law_choices (T : Top mg) (D : Def K mg "_law_choices" "_law_choices" s__law_choices) (C__law_joins : Cal P w K mg base 1 "_law_joins" (spJoins false)) : Cal P w K mg base 2 "_law_choices" spChoices := by
  refine D.cal sc__law_choices (fun _ _ _ _ _ _ us hl => match us, hl with | [_], _ => rfl) (fun vs H Q E h => ?_) fun f cdv A outer s H vs Q E hr hsp => ?_
  · obtain ⟨_, _, rfl, _⟩ := h; rfl
  refine ⟨_, (pss_cons (ps_set (i := 1) sc__law_choices.nd rfl (Or.inl rfl) (pe_lst (pa_cons (pe_tup pa_nil) pa_nil)))
    (pss_cons (ps_for PassesOwn.never rfl (pi_listK K (pe_f C__law_joins hr rfl (pa_cons (pv 0) pa_nil))) (pg_name (i := 2) sc__law_choices.nd rfl (Or.inl rfl))
    (pss_cons (ps_set (i := 3) sc__law_choices.nd rfl (Or.inl rfl) (pe_lst pa_nil))
    (pss_cons (ps_for PassesOwn.never rfl (pi_listK K (pv 1)) (pg_name (i := 4) sc__law_choices.nd rfl (Or.inl rfl))
    (pss_one (ps_expr (pe_ml PySem.F.slot_list_extend PySem.F.type_list_extend mt_extend (pv 3) (pa_cons (pe_lst (pa_cons (pe_op catt (pv 4) (pe_tup (pa_cons pe_int pa_nil))) (pa_cons (pe_op catt (pv 4) (pe_tup (pa_cons pe_int pa_nil))) pa_nil))) pa_nil)))))
    (pss_one (ps_set (i := 1) sc__law_choices.nd rfl (Or.inl rfl) (pv 3))))))
    (pss_one (ps_ret (pv 1))))), ?_⟩
  obtain ⟨v, N, rfl, hd, h60, h6, q⟩ := hsp
  have hjl := joins_nodup N
  refine ⟨Nat.zero_le _, fun p0 hp0 => ⟨small (show 1 ≤ 10000 by decide), fun l0 hl0 => ?_⟩⟩
  have S0 : Same H (upd (upd H p0 (.tup [])) l0 (.lst [.ref p0])) := Same.trans' (same_upd hp0) (same_upd hl0)
  have d0 : DTs (upd (upd H p0 (.tup [])) l0 (.lst [.ref p0])) [.ref p0] ((allBits 0).map encC) := by
    have : p0 ≠ l0 := fun z => by rw [← z, upd_same] at hl0; cases hl0
    exact .cons (c_mk (c := []) (by rw [upd_ne this, upd_same]; rfl)) .nil
  have e0 : upd (upd H p0 (.tup [])) l0 (.lst [.ref p0]) l0 = some (.lst [.ref p0]) := upd_same
  generalize upd (upd H p0 (.tup [])) l0 (.lst [.ref p0]) = H0 at S0 d0 e0 ⊢
  refine ⟨_, rfl, v, N, rfl, hd.up (Same.tk S0), h60, fun H1 jl S1 jl0 hjl => ⟨jl, rfl, ⟨_, sl_at hjl⟩, ?_⟩⟩
  have hjl : H1 jl = some (.lst ((joins N).map natV)) := hjl
  refine for_gen (n := (joins N).length) (fun i σ H2 => Same H H2 ∧ H2 jl = some (.lst ((joins N).map natV)) ∧ ∃ p xs s2 s3 s4, σ = [some v, some (.ref p), s2, s3, s4] ∧ H2 p = some (.lst xs) ∧ DTs H2 xs ((allBits i).map encC))
    ⟨Same.trans' S0 S1, hjl, l0, _, _, _, _, rfl, S1 _ _ e0, d0.up (Same.tk S1)⟩ (fun i σ H2 hi ⟨_, h, _⟩ => go_lst h (by rw [nats_len]; exact hi)) (fun σ H2 ⟨_, h, _⟩ => st_lst h (by rw [nats_len]; exact Nat.le_refl _)) (fun i σ H2 x H3 hi ⟨S2, hj2, p, xs, s2, s3, s4, es, hp2, hxs⟩ hy => ?_) fun σ H2 ⟨S2, hj2, p, xs, s2, s3, s4, es, hp2, hxs⟩ => ?_
  · subst es
    obtain ⟨rfl, hx⟩ := hy
    have hbl := bits_small (show i ≤ 6 by omega)
    have hxl : xs.length = (allBits i).length := by rw [hxs.length, List.length_map]
    refine ⟨Nat.zero_le _, fun lg hlg => ?_⟩
    have S3 : Same H3 (upd H3 lg (.lst [])) := same_upd hlg
    refine ⟨_, rfl, p, rfl, ⟨_, sl_at (S3 _ _ hp2)⟩, ?_⟩
    refine for_gen (n := xs.length) (fun j σ H4 => Same H3 H4 ∧ ∃ ys s4, σ = [some v, some (.ref p), some x, some (.ref lg), s4] ∧ H4 lg = some (.lst ys) ∧ DTs H4 ys ((((allBits i).take j).flatMap fun c => [c ++ [0], c ++ [1]]).map encC))
      ⟨S3, [], _, rfl, upd_same, .nil⟩ (fun j σ H4 hj ⟨S4, _⟩ => go_lst (S4 _ _ hp2) hj) (fun σ H4 ⟨S4, _⟩ => st_lst (S4 _ _ hp2) (Nat.le_refl _)) (fun j σ H4 y H5 hj ⟨S4, ys, s4, es, hlg4, hys⟩ hy => ?_) fun σ H4 ⟨S4, ys, s4, es, hlg4, hys⟩ => ?_
    · subst es
      obtain ⟨rfl, hy⟩ := hy
      have hy := hy _ (sl_at (S4 _ _ hp2))
      obtain ⟨dd, ed, hdy⟩ := hxs.get hy
      rw [List.getElem?_map] at ed
      obtain ⟨c, ec, rfl⟩ := Option.map_eq_some_iff.mp ed
      obtain ⟨a, rfl, ha⟩ := c_at (hdy.up (Same.tk S4))
      have clen : c.length = i := (mem_allBits.mp (List.mem_of_getElem? ec)).1
      have ha : H5 a = some (.tup (c.map natV)) := ha
      refine ⟨_, rfl, ⟨lg, _, rfl, hlg4⟩, ?_⟩
      refine ⟨_, rfl, small (show 1 ≤ 10000 by decide), fun z1 hz1 => ?_⟩
      have S5 := same_upd (o := .tup [V.int 0]) hz1
      have hz1' : upd H5 z1 (.tup [V.int 0]) z1 = some (.tup [V.int 0]) := upd_same
      generalize upd H5 z1 (.tup [V.int 0]) = H6 at S5 hz1' ⊢
      refine ⟨a, z1, _, _, rfl, rfl, S5 _ _ ha, hz1', by rw [nats_len]; exact small (show c.length + 1 ≤ 10000 by omega), fun q1 H7 S7 hq1 => ?_⟩
      refine ⟨_, rfl, small (show 1 ≤ 10000 by decide), fun z2 hz2 => ?_⟩
      have S8 := same_upd (o := .tup [V.int 1]) hz2
      have hz2' : upd H7 z2 (.tup [V.int 1]) z2 = some (.tup [V.int 1]) := upd_same
      generalize upd H7 z2 (.tup [V.int 1]) = H8 at S8 hz2' ⊢
      refine ⟨a, z2, _, _, rfl, rfl, S8 _ _ (S7 _ _ (S5 _ _ ha)), hz2', by rw [nats_len]; exact small (show c.length + 1 ≤ 10000 by omega), fun q2 H9 S9 hq2 => ?_⟩
      refine ⟨small (show 2 ≤ 10000 by decide), fun z3 hz3 => ?_⟩
      have S59 : Same H5 H9 := Same.trans' S5 (Same.trans' S7 (Same.trans' S8 S9))
      have S10 := same_upd (o := .lst [.ref q1, .ref q2]) hz3
      have hq1' := S10 _ _ (S9 _ _ (S8 _ _ hq1))
      have hq2' := S10 _ _ hq2
      have S510 := Same.trans' S59 S10
      have hz3' : upd H9 z3 (.lst [.ref q1, .ref q2]) z3 = some (.lst [.ref q1, .ref q2]) := upd_same
      have nlz : lg ≠ z3 := fun z => by rw [← z, S59 _ _ hlg4] at hz3; cases hz3
      generalize upd H9 z3 (.lst [.ref q1, .ref q2]) = H10 at hq1' hq2' S510 hz3' ⊢
      have ylen : ys.length ≤ 128 := by
        rw [hys.length, List.length_map, two_len, List.length_take]
        omega
      refine ⟨lg, z3, ys, _, rfl, rfl, S510 _ _ hlg4, hz3', small (show ys.length + 2 ≤ 10000 by omega), fun b o e => ?_, _, _, rfl, upd_same, ?_⟩
      · rw [upd_ne (ne_of_none e hlg)]
        exact S510 _ _ (S4 _ _ e)
      · have tk : TK H10 (upd H10 lg (.lst (ys ++ [.ref q1, .ref q2]))) := tk_set (S510 _ _ hlg4) no_lst
        rw [two_take _ ec, List.map_append]
        refine app_dts (hys.up (TK.trans (Same.tk S510) tk)) (.cons (c_mk ?_) (.cons (c_mk ?_) .nil))
        · rw [List.map_append]
          exact tk _ _ hq1' (.inl ⟨_, rfl⟩)
        · rw [List.map_append]
          exact tk _ _ hq2' (.inl ⟨_, rfl⟩)
    · subst es
      rw [hxl, List.take_length] at hys
      exact ⟨_, rfl, Same.trans' S2 S4, S4 _ _ hj2, lg, ys, _, _, _, rfl, hlg4, hys⟩
  · subst es
    exact ⟨_, rfl, q _ p xs S2 hp2 hxs⟩
end
end JT
/-! L2x: choices_of, roads. -/
namespace JT
open PySem PySem.Spec PyProof.Rows L2 PySem.W
abbrev s_choices_of : Stmt := topS 54
abbrev n_choices_of : List Str := ["net", "found", "join", "choice", "side"]
theorem sc_choices_of : FnScope n_choices_of ["net"] (defScope s_choices_of) :=
  ⟨rfl, rfl, rfl, by decide +kernel, rfl, by decide +kernel, by decide +kernel⟩
abbrev s__law_road : Stmt := topS 74
abbrev n__law_road : List Str := ["_law_elders", "_law_at", "_law_found"]
theorem sc__law_road : FnScope n__law_road ["_law_elders", "_law_at"] (defScope s__law_road) :=
  ⟨rfl, rfl, rfl, by decide +kernel, rfl, by decide +kernel, by decide +kernel⟩
section
variable {P : Program} {w : World} {K : PySem.W.Frag} {mg : Str → Option Value} {base : Heap}
theorem c_choices_of (T : Top mg) (D : Def K mg "choices_of" "choices_of" s_choices_of) (C_joins_of : Cal P w K mg base 1 "joins_of" (spJoins true)) : Cal P w K mg base 2 "choices_of" spChoices := by
  refine D.cal sc_choices_of (fun _ _ _ _ _ _ us hl => match us, hl with | [_], _ => rfl) (fun vs H Q E h => ?_) fun f cdv A outer s H vs Q E hr hsp => ?_
  · obtain ⟨_, _, rfl, _⟩ := h; rfl
  refine ⟨_, (pss_cons (ps_set (i := 1) sc_choices_of.nd rfl (Or.inl rfl) (pe_lst (pa_cons (pe_tup pa_nil) pa_nil)))
    (pss_cons (ps_for PassesOwn.never rfl (pi_tupK K (pe_f C_joins_of hr rfl (pa_cons (pv 0) pa_nil))) (pg_name (i := 2) sc_choices_of.nd rfl (Or.inl rfl))
    (pss_one (ps_setLc2 (i := 1) (own := [("choice", 3), ("side", 4)]) (g := gName 3) (tt := tYes) (vs1 := [4]) (g1 := gName 4) (tt1 := tYes) rfl sc_choices_of.nd rfl rfl (sw_true rfl rfl rfl (by decide +kernel)) (pi_listK K (pv 1)) (blkOk_by (own := [("choice", 3), ("side", 4)]) (N := n_choices_of) (sc := defScope s_choices_of) (by decide +kernel)) (by decide) (fun _ _ _ _ _ => (pg_name (i := 3) sc_choices_of.nd rfl (Or.inl rfl))) (fun _ _ _ _ _ => pts_nil) (fun _ _ _ _ _ => (pi_tupK K (pe_tup (pa_cons pe_int (pa_cons pe_int pa_nil))))) (fun _ _ _ _ _ => (pg_name (i := 4) sc_choices_of.nd rfl (Or.inl rfl))) (fun _ _ _ _ _ => pts_nil) (fun _ _ _ _ _ => (pe_op catt (pv 3) (pe_tup (pa_cons (pv 4) pa_nil)))))))
    (pss_one (ps_ret (pv 1))))), ?_⟩
  obtain ⟨v, N, rfl, hd, h60, h6, q⟩ := hsp
  refine ⟨Nat.zero_le _, fun p0 hp0 => ⟨small (show 1 ≤ 10000 by decide), fun l0 hl0 => ?_⟩⟩
  have S0 : Same H (upd (upd H p0 (.tup [])) l0 (.lst [.ref p0])) := Same.trans' (same_upd hp0) (same_upd hl0)
  have d0 : DTs (upd (upd H p0 (.tup [])) l0 (.lst [.ref p0])) [.ref p0] ((allBits 0).map encC) := by
    have : p0 ≠ l0 := fun z => by rw [← z, upd_same] at hl0; cases hl0
    exact .cons (c_mk (c := []) (by rw [upd_ne this, upd_same]; rfl)) .nil
  have e0 : upd (upd H p0 (.tup [])) l0 (.lst [.ref p0]) l0 = some (.lst [.ref p0]) := upd_same
  generalize upd (upd H p0 (.tup [])) l0 (.lst [.ref p0]) = H0 at S0 d0 e0 ⊢
  refine ⟨_, rfl, v, N, rfl, hd.up (Same.tk S0), h60, fun H1 jl S1 jl0 hjl => ⟨jl, rfl, ⟨_, sq_at hjl⟩, ?_⟩⟩
  have hjl : H1 jl = some (.tup ((joins N).map natV)) := hjl
  refine for_gen (n := (joins N).length) (fun i σ H2 => Same H H2 ∧ H2 jl = some (.tup ((joins N).map natV)) ∧ ∃ p xs s2 s3 s4, σ = [some v, some (.ref p), s2, s3, s4] ∧ H2 p = some (.lst xs) ∧ DTs H2 xs ((allBits i).map encC))
    ⟨Same.trans' S0 S1, hjl, l0, _, _, _, _, rfl, S1 _ _ e0, d0.up (Same.tk S1)⟩ (fun i σ H2 hi ⟨_, h, _⟩ => go_tup h (by rw [nats_len]; exact hi)) (fun σ H2 ⟨_, h, _⟩ => st_tup h (by rw [nats_len]; exact Nat.le_refl _)) (fun i σ H2 x H3 hi ⟨S2, hj2, p, xs, s2, s3, s4, es, hp2, hxs⟩ hy => ?_) fun σ H2 ⟨S2, hj2, p, xs, s2, s3, s4, es, hp2, hxs⟩ => ?_
  · subst es
    obtain ⟨rfl, hx⟩ := hy
    have hbl := bits_small (show i ≤ 6 by omega)
    have hxl : xs.length = (allBits i).length := by rw [hxs.length, List.length_map]
    refine ⟨_, rfl, p, rfl, ⟨_, sl_at hp2⟩, fun D hD => ?_⟩
    refine lc2_gen (n := xs.length) (fun j H4 => Same H3 H4 ∧ ∃ ys, H4 D = some (.lst ys) ∧ DTs H4 ys ((((allBits i).take j).flatMap fun c => [c ++ [0], c ++ [1]]).map encC)) ⟨same_upd hD, [], upd_same, .nil⟩ (fun j H4 hj ⟨S4, _⟩ => go_lst (S4 _ _ hp2) hj) (fun H4 ⟨S4, _⟩ => st_lst (S4 _ _ hp2) (Nat.le_refl _)) (fun j H4 y H5 hj ⟨S4, ys, hD4, hys⟩ hy => ?_) fun H4 ⟨S4, ys, hD4, hys⟩ => ?_
    · obtain ⟨rfl, hy⟩ := hy
      have hy := hy _ (sl_at (S4 _ _ hp2))
      obtain ⟨dd, ed, hdy⟩ := hxs.get hy
      rw [List.getElem?_map] at ed
      obtain ⟨c, ec, rfl⟩ := Option.map_eq_some_iff.mp ed
      obtain ⟨a, rfl, ha⟩ := c_at (hdy.up (Same.tk S4))
      have clen : c.length = i := (mem_allBits.mp (List.mem_of_getElem? ec)).1
      have ylen : ys.length ≤ 128 := by
        rw [hys.length, List.length_map, two_len, List.length_take]
        omega
      refine ⟨rfl, small (show 2 ≤ 10000 by decide), fun z1 hz1 => ⟨z1, rfl, ⟨_, sq_at upd_same⟩, ?_⟩⟩
      have S5 := same_upd (o := .tup [V.int 0, V.int 1]) hz1
      have hz1' : upd H5 z1 (.tup [V.int 0, V.int 1]) z1 = some (.tup [natV 0, natV 1]) := upd_same
      have ha5 := S5 _ _ ha
      have hD5 := S5 _ _ hD4
      have hys5 := hys.up (Same.tk S5)
      have S35 := Same.trans' S4 S5
      generalize upd H5 z1 (.tup [V.int 0, V.int 1]) = H6 at hz1' ha5 hD5 hys5 S35 ⊢
      refine lc2_in (n := 2) (fun k H7 => Same H3 H7 ∧ H7 z1 = some (.tup [natV 0, natV 1]) ∧ H7 a = some (.tup (c.map natV)) ∧ ∃ zs, H7 D = some (.lst (ys ++ zs)) ∧ DTs H7 (ys ++ zs) ((((allBits i).take j).flatMap (fun c => [c ++ [0], c ++ [1]]) ++ [c ++ [0], c ++ [1]].take k).map encC))
        ⟨S35, hz1', ha5, [], by rw [List.append_nil]; exact hD5, by simpa using hys5⟩ (fun k H7 hk ⟨_, h, _⟩ => go_tup h hk) (fun H7 ⟨_, h, _⟩ => st_tup h (Nat.le_refl _)) (fun k H7 u H8 hk ⟨S7, hz7, ha7, zs, hD7, hzs⟩ hu => ?_) fun H7 ⟨S7, hz7, ha7, zs, hD7, hzs⟩ => ⟨S7, ys ++ zs, hD7, by rw [two_take _ ec]; exact hzs⟩
      obtain ⟨rfl, hu⟩ := hu
      have hu := hu _ (sq_at hz7)
      have huk : u = natV k := by
        have : k = 0 ∨ k = 1 := by omega
        rcases this with e | e <;> subst e <;> (cases hu; rfl)
      subst huk
      refine ⟨rfl, _, rfl, _, rfl, small (show 1 ≤ 10000 by decide), fun z2 hz2 => ?_⟩
      have S8 := same_upd (o := .tup [natV k]) hz2
      have hz2' : upd H8 z2 (.tup [natV k]) z2 = some (.tup [natV k]) := upd_same
      generalize upd H8 z2 (.tup [natV k]) = H9 at S8 hz2' ⊢
      refine ⟨a, z2, _, _, rfl, rfl, S8 _ _ ha7, hz2', by rw [nats_len]; exact small (show c.length + 1 ≤ 10000 by omega), fun q1 H10 S10 hq1 => ⟨ys ++ zs, S10 _ _ (S8 _ _ hD7), ?_, fun b o e => ?_, ?_, ?_, zs ++ [.ref q1], by rw [upd_same, List.append_assoc], ?_⟩⟩
      · have := hzs.length
        simp only [List.length_map, List.length_append, two_len, List.length_take] at this
        rw [List.length_append]
        exact smallT (by omega)
      · rw [upd_ne (ne_of_none e hD)]
        exact S10 _ _ (S8 _ _ (S7 _ _ e))
      · rw [upd_ne (fun z => by rw [z, hD7] at hz7; cases hz7)]
        exact S10 _ _ (S8 _ _ hz7)
      · rw [upd_ne (fun z => by rw [z, hD7] at ha7; cases ha7)]
        exact S10 _ _ (S8 _ _ ha7)
      · have tk : TK H10 (upd H10 D (.lst (ys ++ zs ++ [.ref q1]))) := tk_set (S10 _ _ (S8 _ _ hD7)) no_lst
        have e1 : ([c ++ [0], c ++ [1]].take (k + 1)) = [c ++ [0], c ++ [1]].take k ++ [c ++ [k]] := by
          have : k = 0 ∨ k = 1 := by omega
          rcases this with e | e <;> subst e <;> rfl
        rw [e1]
        have eA : ∀ A B : List (List Nat), (A ++ (B ++ [c ++ [k]])).map encC = (A ++ B).map encC ++ [encC (c ++ [k])] := fun A B => by
          rw [← List.append_assoc, List.map_append]
          rfl
        rw [eA, ← List.append_assoc]
        refine app_dts (hzs.up (TK.trans (Same.tk (Same.trans' S8 S10)) tk)) (.cons (c_mk ?_) .nil)
        rw [List.map_append]
        exact tk _ _ hq1 (.inl ⟨_, rfl⟩)
    · rw [hxl, List.take_length] at hys
      exact ⟨Same.trans' S2 S4, S4 _ _ hj2, D, ys, _, _, _, rfl, hD4, hys⟩
  · subst es
    exact ⟨_, rfl, q _ p xs S2 hp2 hxs⟩
/-- at d the elders of all rows but the first -/
def EldD (H : Hp) (d : Addr) (n : Nat) (e : Nat → Nat) : Prop := DictN H d n fun k => if 0 < k ∧ k < n then some (e k) else none
def spRoad : Sp := fun vs H Q _ => ∃ d N e j, vs = [.ref d, natV j] ∧ EldD H d N.length e ∧ Elder N e ∧ Good N ∧ j < N.length ∧ ∀ H' p (rd : List Nat), Same H H' → H' p = some (.lst (rd.map natV)) → (∀ i x, rd[i]? = some x ↔ Up e j i x) → Q (.ref p) H'
theorem c__law_road (T : Top mg) (D : Def K mg "_law_road" "_law_road" s__law_road) : Cal P w K mg base 1 "_law_road" spRoad := by
  refine D.cal sc__law_road (fun _ _ _ _ _ _ us hl => match us, hl with | [_, _], _ => rfl) (fun vs H Q E h => ?_) fun f cdv A outer s H vs Q E hr hsp => ?_
  · obtain ⟨_, _, _, _, rfl, _⟩ := h; rfl
  have hu := hu_of hr
  refine ⟨_, (pss_cons (ps_set (i := 2) sc__law_road.nd rfl (Or.inl rfl) (pe_lst (pa_cons (pv 1) pa_nil)))
    (pss_cons (ps_while PassesOwn.never (pt_cmp (pc_din hu (pe_ix ixl (pv 2) (pe_un un_neg pe_int) (fun _ _ => rfl)) (pv 0))) (pss_one (ps_expr (pe_ml PySem.F.slot_list_append PySem.F.type_list_append mt_append (pv 2) (pa_cons (pe_dget hu (pv 0) (pe_ix ixl (pv 2) (pe_un un_neg pe_int) (fun _ _ => rfl)) (fun _ _ => rfl)) pa_nil)))))
    (pss_one (ps_ret (pv 2))))), ?_⟩
  obtain ⟨d, N, e, j, rfl, hE, El, G, hj, q⟩ := hsp
  have h49 := G.len
  refine ⟨_, rfl, small (show 1 ≤ 10000 by decide), fun fl hfl => ?_⟩
  have S1 := same_upd (o := .lst [natV j]) hfl
  have hfl1 : upd H fl (.lst [natV j]) fl = some (.lst [natV j]) := upd_same
  generalize upd H fl (.lst [natV j]) = H1 at S1 hfl1 ⊢
  refine ⟨fun m σ H2 => σ = [some (.ref d), some (natV j), some (.ref fl)] ∧ Same H H2 ∧ ∃ (rd : List Nat) (k x : Nat), H2 fl = some (.lst ((rd ++ [x]).map natV)) ∧ rd.length = k ∧ Up e j k x ∧ (∀ i y, rd[i]? = some y → i < k ∧ Up e j i y) ∧ m = x,
    ⟨_, rfl, S1, [], 0, j, hfl1, rfl, .refl j, by simp, rfl⟩, ?_⟩
  rintro m σ H2 ⟨rfl, S2, rd, k, x, hf2, hrl, ux, hR, rfl⟩
  obtain ⟨kvs, f1, f2, f3, f4⟩ := hE.frame (H' := H2) fun o e => S2 _ _ e
  have hux := (ux.dn El G hj).2
  have hf2' : H2 fl = some (.lst (rd.map natV ++ [natV m])) := by rw [hf2, List.map_append]; rfl
  refine ⟨_, rfl, 1, rfl, fl, _, -1, _, rfl, rfl, hf2', atI_last _ _, _, rfl, d, _, rfl, DGet.k (k := nk m) f1, _, rfl, ?_⟩
  have sizes : (rd.map natV ++ [natV m]).length < sizeLine := by
    rw [List.length_append, List.length_map, hrl]
    exact smallT (show k + 1 ≤ 10000 by omega)
  by_cases h0 : m = 0
  · subst h0
    have hv0 : valV kvs (nk 0) = none := by
      rw [f4]
      show Option.map natV (if 0 < 0 ∧ 0 < N.length then some (e 0) else none) = none
      rw [if_neg (by omega)]
      rfl
    rw [hv0]
    refine iteF ?_
    refine ⟨_, rfl, q _ fl (rd ++ [0]) S2 hf2 fun i y => ?_⟩
    constructor
    · intro h
      rw [List.getElem?_append] at h
      split at h
      · exact (hR i y h).2
      · rename_i hge
        have hi := (List.getElem?_eq_some_iff.mp h).1
        simp at hi
        have : i = k := by omega
        subst this
        rw [hrl] at h
        simp at h
        subst h
        exact ux
    · intro h
      have hik : i ≤ k := by
        refine Nat.le_of_not_lt fun z => ?_
        have s := Up.split (k := i - k) ux (by rw [show k + (i - k) = i by omega]; exact h)
        have : i - k = (i - k - 1) + 1 := by omega
        rw [this] at s
        cases s with
        | step n _ => exact n rfl
      rcases Nat.lt_or_ge i k with z | z
      · rw [List.getElem?_append_left (by omega)]
        have hi2 : i < rd.length := by omega
        have e1 : rd[i]? = some rd[i] := List.getElem?_eq_getElem hi2
        rw [e1, (hR i _ e1).2.det h]
      · have : i = k := by omega
        subst this
        rw [List.getElem?_append_right (by omega), hrl, Nat.sub_self, h.det ux]
        rfl
  · have hm : 0 < m ∧ m < N.length := ⟨by omega, by omega⟩
    have he : valV kvs (nk m) = some (natV (e m)) := by
      rw [f4]
      show Option.map natV (if 0 < m ∧ m < N.length then some (e m) else none) = _
      rw [if_pos hm]
      rfl
    rw [he]
    refine iteT ⟨_, fun σ' H' h => h, ?_⟩
    have hl := El.lt G hm.1 hm.2
    refine ⟨_, rfl, ⟨fl, _, rfl, hf2'⟩, _, rfl, _, rfl, 1, rfl, fl, _, -1, _, rfl, rfl, hf2', atI_last _ _, d, _, rfl, by
      have z := DGet.k (k := nk m) f1
      rw [he] at z
      exact z, fl, _, natV (e m), rfl, rfl, hf2', sizes, ?_⟩
    refine ⟨e m, hl, rfl, fun b o eb => ?_, rd ++ [m], k + 1, e m, ?_, by rw [List.length_append, hrl]; rfl, ?_, fun i y h => ?_, rfl⟩
    · rw [upd_ne (ne_of_none eb hfl)]
      exact S2 _ _ eb
    · rw [upd_same, List.map_append, List.map_append]
      rfl
    · exact ux.app (.step (by omega) (.refl _))
    · rw [List.getElem?_append] at h
      split at h
      · have := hR i y h
        exact ⟨by omega, this.2⟩
      · rename_i hge
        have hi := (List.getElem?_eq_some_iff.mp h).1
        simp at hi
        have : i = k := by omega
        subst this
        rw [hrl] at h
        simp at h
        subst h
        exact ⟨by omega, ux⟩
end
end JT
/-! RuZip: zip of a list and a tuple; zip of two tuples of one length, strict=True. -/
namespace JT
open PySem PySem.Spec PyProof.Rows L2
section
variable {prog : Program} {w : World} {A : Around} {E : Value → Shared → Prop} {s : Shared} {it : Addr} {fp : List Addr} {n i : Nat} {P : Nat → Value → Prop} {St : Nat → Heap → Prop}
theorem nextOrEnd_item {Q : Option Value → Shared → Prop} (D : Draws prog w A it fp n P St) (hi : i < n) (st : St i s.heap)
    (hQ : ∀ x h' tk, P i x → St (i + 1) h' → Heap.SameBut it s.heap h' → Q (some x) { s with heap := h', toks := tk }) : wpAny (model prog w) A (Builtin.SmallTypes.nextOrEnd (.ref it)) Q E s := by
  unfold Builtin.SmallTypes.nextOrEnd
  exact wpAny_bind (wpAny_attempt (D.item i s _ _ hi st fun x h' tk hP st' sb => wpAny_pure (hQ x h' tk hP st' sb)))
theorem nextOrEnd_end {Q : Option Value → Shared → Prop} (D : Draws prog w A it fp n P St) (st : St n s.heap)
    (hQ : ∀ h', Heap.ExtBut it s.heap h' → Q none { s with heap := h' }) : wpAny (model prog w) A (Builtin.SmallTypes.nextOrEnd (.ref it)) Q E s := by
  unfold Builtin.SmallTypes.nextOrEnd
  refine wpAny_bind (wpAny_attempt (D.done s _ _ st fun h' e ex he => ?_))
  obtain ⟨o, ho, hc⟩ := he
  refine wpAny_bind (wpAny_isInstance (T := "StopIteration") (b := true) ⟨o, ho, hc⟩ isSubtype_stop ?_)
  exact wpAny_pure (hQ _ ex)
end
/-- a zip that is strict -/
abbrev IsZipS (h : Heap) (z TI TO : Addr) (x : Value) : Prop := h.get? z = some { cls := .type "zip", data := .fields #[x, .bool false, .bool true, .ref TI, .ref TO] }
section
variable {prog : Program} {w : World} {A : Around} {E : Value → Shared → Prop} {s : Shared} {z TI TO i1 i2 : Addr} {fp1 fp2 : List Addr} {n1 n2 i : Nat} {P1 P2 : Nat → Value → Prop} {St1 St2 : Nat → Heap → Prop} {a1 a2 : Value}
theorem zipS_next_item {Q : Value → Shared → Prop} (S : ZipSep2 z TI TO i1 i2 fp1 fp2) (D1 : Draws prog w A i1 fp1 n1 P1 St1) (D2 : Draws prog w A i2 fp2 n2 P2 St2)
    (hz : IsZipS s.heap z TI TO .none) (hTI : IsTupOf2 s.heap TI (.ref i1) (.ref i2)) (hTO : IsTupOf2 s.heap TO a1 a2) (st1 : St1 i s.heap) (st2 : St2 i s.heap) (hlt1 : i < n1) (hlt2 : i < n2)
    (hQ : ∀ x1 x2 h' tk, P1 i x1 → P2 i x2 → IsZipS h' z TI TO (rawInt s.heap.objs.size) → IsTupOf2 h' TO x1 x2 → St1 (i + 1) h' → St2 (i + 1) h' → IsTupOf2 h' s.heap.objs.size x1 x2 → h'.objs.size = s.heap.objs.size + 1 →
      (∀ c o, c ≠ z → c ≠ TO → c ≠ i1 → c ≠ i2 → s.heap.get? c = some o → h'.get? c = some o) → Q (.ref s.heap.objs.size) { s with heap := h', toks := tk }) :
    wpAny (model prog w) A (Builtin.«zip.__next__» ⟨[.ref z], []⟩) (fun fin s' => ∃ v, fin = .done (.ret v) ∧ Q v s') E s := by
  obtain ⟨hp, g, d, tk0, os⟩ := s
  show wpAny _ _ (field (.ref z) 2 >>= _) _ _ _
  refine wpAny_bind (wpAny_field hz rfl (x := .bool true) rfl ?_)
  show wpAny _ _ (field (.ref z) 3 >>= _) _ _ _
  refine wpAny_bind (wpAny_field hz rfl (x := .ref TI) rfl ?_)
  refine wpAny_bind (wpAny_seqItems hTI rfl ?_)
  show wpAny _ _ (Builtin.SmallTypes.ownedTupleIsFree (.ref z) >>= _) _ _ _
  refine wpAny_bind ?_
  unfold Builtin.SmallTypes.ownedTupleIsFree
  refine wpAny_bind (wpAny_field hz rfl (x := .none) rfl (wpAny_pure ?_))
  simp only [if_true]
  refine wpAny_bind (wpAny_rule ?_)
  refine wpAny_bind (wpAny_field hz rfl (x := .ref TO) rfl ?_)
  refine wpAny_bind (wpAny_setField_rec hz (by simp) fun g0 hz0 hs0 => ?_)
  replace hz0 : IsZipS g0 z TI TO .ellipsis := hz0
  replace hs0 : Heap.SameBut z hp g0 := hs0
  refine wpAny_bind ?_
  simp only [List.zipIdx_cons, List.zipIdx_nil, List.forIn_cons, List.forIn_nil]
  refine wpAny_bind (wpAny_bind (wpAny_onRaise ?_))
  show wpAny _ _ (Builtin.SmallTypes.nextOrEnd (.ref i1)) _ _ ⟨g0, g, d, tk0, os⟩
  refine nextOrEnd_item D1 hlt1 (D1.over st1 hs0 S.zf1) fun x1 p1 tk1 hx1 sn1 hp1 => ?_
  replace hp1 : Heap.SameBut i1 g0 p1 := hp1
  have hU1 : IsTupOf2 p1 TO a1 a2 := hp1.extBut _ _ S.Ti1 (hs0.extBut _ _ S.TOz hTO)
  refine wpAny_bind (wpAny_seqItems (s := ⟨p1, g, d, tk1, os⟩) hU1 rfl ?_)
  refine wpAny_bind (updateSeq_IsTupOf2 (s := ⟨p1, g, d, tk1, os⟩) hU1 fun g1 hT1 hs1 => ?_)
  replace hT1 : IsTupOf2 g1 TO x1 a2 := hT1
  replace hs1 : Heap.SameBut TO p1 g1 := hs1
  refine wpAny_bind (wpAny_letGo (wpAny_pure ?_))
  refine wpAny_bind (wpAny_bind (wpAny_onRaise ?_))
  show wpAny _ _ (Builtin.SmallTypes.nextOrEnd (.ref i2)) _ _ ⟨g1, g, d, tk1, os⟩
  refine nextOrEnd_item D2 hlt2 (D2.over (D2.over (D2.over st2 hs0 S.zf2) hp1 S.sep1_2) hs1 S.Tf2) fun x2 p2 tk2 hx2 sn2 hp2 => ?_
  replace hp2 : Heap.SameBut i2 g1 p2 := hp2
  have hU2 : IsTupOf2 p2 TO x1 a2 := hp2.extBut _ _ S.Ti2 hT1
  refine wpAny_bind (wpAny_seqItems (s := ⟨p2, g, d, tk2, os⟩) hU2 rfl ?_)
  refine wpAny_bind (updateSeq_IsTupOf2 (s := ⟨p2, g, d, tk2, os⟩) hU2 fun g2 hT2 hs2 => ?_)
  replace hT2 : IsTupOf2 g2 TO x1 x2 := hT2
  replace hs2 : Heap.SameBut TO p2 g2 := hs2
  refine wpAny_bind (wpAny_letGo (wpAny_pure (wpAny_pure ?_)))
  refine wpAny_bind (wpAny_seqItems (s := ⟨g2, g, d, tk2, os⟩) hT2 rfl ?_)
  refine wpAny_bind (wpAny_newTuple ?_)
  have hsz : g2.objs.size = hp.objs.size := by rw [hs2.1, hp2.1, hs1.1, hp1.1, hs0.1]
  have hzz : IsZipS g2 z TI TO .ellipsis := (hs2.extBut _ _ S.TOz.symm (hp2.extBut _ _ S.zi2 (hs1.extBut _ _ S.TOz.symm (hp1.extBut _ _ S.zi1 hz0))))
  have hkk : ∀ c o, c ≠ z → c ≠ TO → c ≠ i1 → c ≠ i2 → hp.get? c = some o → g2.get? c = some o := fun c o cz cT c1 c2 e =>
    (hs2.extBut _ _ cT (hp2.extBut _ _ c2 (hs1.extBut _ _ cT (hp1.extBut _ _ c1 (hs0.extBut _ _ cz e)))))
  have hj1 : St1 (i + 1) g2 := (D1.over (D1.over (D1.over sn1 hs1 S.Tf1) hp2 S.sep2_1) hs2 S.Tf1)
  have hj2 : St2 (i + 1) g2 := (D2.over sn2 hs2 S.Tf2)
  have hzlt : z < g2.objs.size := Heap.lt_size hzz
  show wpAny _ _ (Builtin.SmallTypes.ownedTupleHandOut (.ref z) (.ref g2.objs.size) >>= _) _ _ ⟨g2.push { cls := .type "tuple", data := .seq #[x1, x2] }, g, d, tk2, os⟩
  refine wpAny_bind ?_
  unfold Builtin.SmallTypes.ownedTupleHandOut
  have hz6 : IsZipS (g2.push { cls := .type "tuple", data := .seq #[x1, x2] }) z TI TO .ellipsis := Heap.get?_push_of_some _ hzz
  refine wpAny_bind (wpAny_setField_rec hz6 (by simp) fun h7 hz7 hs7 => ?_)
  replace hz7 : IsZipS h7 z TI TO (rawInt g2.objs.size) := hz7
  refine wpAny_setField_rec hz7 (by simp) fun h8 hz8 hs8 => ?_
  replace hz8 : IsZipS h8 z TI TO (rawInt g2.objs.size) := hz8
  replace hs7 : Heap.SameBut z (g2.push { cls := .type "tuple", data := .seq #[x1, x2] }) h7 := hs7
  replace hs8 : Heap.SameBut z h7 h8 := hs8
  have up : ∀ c o, c ≠ z → g2.get? c = some o → h8.get? c = some o := fun c o c1 e => hs8.extBut _ _ c1 (hs7.extBut _ _ c1 (Heap.get?_push_of_some _ e))
  have hT8 : IsTupOf2 h8 g2.objs.size x1 x2 := hs8.extBut _ _ (Nat.ne_of_gt hzlt) (hs7.extBut _ _ (Nat.ne_of_gt hzlt) (Heap.get?_push_size _ rfl))
  have hzs : h8.objs.size = g2.objs.size + 1 := by rw [hs8.1, hs7.1, Heap.size_push]
  rw [hsz] at hz8 hT8 hzs
  refine wpAny_pure ⟨_, rfl, ?_⟩
  show Q (.ref g2.objs.size) ⟨h8, g, d, tk2, os⟩
  rw [hsz]
  exact hQ x1 x2 h8 tk2 hx1 hx2 hz8 (up _ _ S.TOz hT2) (D1.frame _ _ _ hj1 fun b hb o e => up b o (fun q => S.zf1 (q ▸ hb)) e) (D2.frame _ _ _ hj2 fun b hb o e => up b o (fun q => S.zf2 (q ▸ hb)) e) hT8 hzs fun c o cz cT c1 c2 e => up c o cz (hkk c o cz cT c1 c2 e)
theorem zipS_next_end {Q : Fin → Shared → Prop} (hh : A.handled = none) (S : ZipSep2 z TI TO i1 i2 fp1 fp2) (D1 : Draws prog w A i1 fp1 n1 P1 St1) (D2 : Draws prog w A i2 fp2 n2 P2 St2)
    (hz : IsZipS s.heap z TI TO .none) (hTI : IsTupOf2 s.heap TI (.ref i1) (.ref i2)) (st1 : St1 n1 s.heap) (st2 : St2 n2 s.heap)
    (hE : ∀ h' tk e, (∀ c o, c ≠ z → c ≠ TO → c ≠ i1 → c ≠ i2 → s.heap.get? c = some o → h'.get? c = some o) → (∃ o, h'.get? e = some o ∧ o.cls = .type "StopIteration") → E (.ref e) { s with heap := h', toks := tk }) :
    wpAny (model prog w) A (Builtin.«zip.__next__» ⟨[.ref z], []⟩) Q E s := by
  obtain ⟨hp, g, d, tk0, os⟩ := s
  show wpAny _ _ (field (.ref z) 2 >>= _) _ _ _
  refine wpAny_bind (wpAny_field hz rfl (x := .bool true) rfl ?_)
  show wpAny _ _ (field (.ref z) 3 >>= _) _ _ _
  refine wpAny_bind (wpAny_field hz rfl (x := .ref TI) rfl ?_)
  refine wpAny_bind (wpAny_seqItems hTI rfl ?_)
  show wpAny _ _ (Builtin.SmallTypes.ownedTupleIsFree (.ref z) >>= _) _ _ _
  refine wpAny_bind ?_
  unfold Builtin.SmallTypes.ownedTupleIsFree
  refine wpAny_bind (wpAny_field hz rfl (x := .none) rfl (wpAny_pure ?_))
  simp only [if_true]
  refine wpAny_bind (wpAny_rule ?_)
  refine wpAny_bind (wpAny_field hz rfl (x := .ref TO) rfl ?_)
  refine wpAny_bind (wpAny_setField_rec hz (by simp) fun g0 hz0 hs0 => ?_)
  replace hz0 : IsZipS g0 z TI TO .ellipsis := hz0
  replace hs0 : Heap.SameBut z hp g0 := hs0
  refine wpAny_bind ?_
  simp only [List.zipIdx_cons, List.zipIdx_nil, List.forIn_cons, List.forIn_nil]
  refine wpAny_bind (wpAny_bind (wpAny_onRaise ?_))
  show wpAny _ _ (Builtin.SmallTypes.nextOrEnd (.ref i1)) _ _ ⟨g0, g, d, tk0, os⟩
  refine nextOrEnd_end D1 (D1.over st1 hs0 S.zf1) fun p1 hp1 => ?_
  replace hp1 : Heap.ExtBut i1 g0 p1 := hp1
  have hz1 : IsZipS p1 z TI TO .ellipsis := hp1 _ _ S.zi1 hz0
  have lT1 : ∀ c o, c ≠ z → c ≠ i1 → hp.get? c = some o → p1.get? c = some o := fun c o cz c1 e => hp1 _ _ c1 (hs0.extBut _ _ cz e)
  show wpAny _ _ (setField (.ref z) 0 .none >>= _) _ _ ⟨p1, g, d, tk0, os⟩
  refine wpAny_bind (wpAny_setField_rec (s := ⟨p1, g, d, tk0, os⟩) hz1 (by simp) fun p2 hz2 hp2 => ?_)
  replace hp2 : Heap.SameBut z p1 p2 := hp2
  refine wpAny_bind ?_
  have st2' : St2 n2 p2 := D2.frame _ _ _ st2 fun b hb o e => hp2.extBut _ _ (fun q => S.zf2 (q ▸ hb)) (lT1 b o (fun q => S.zf2 (q ▸ hb)) (fun q => S.sep1_2 (q ▸ hb)) e)
  change wpAny _ _ (Bind.bind (forIn [(Value.ref i2, 1)] _ _) _) _ _ _
  refine wpAny_bind ?_
  simp only [List.forIn_cons, List.forIn_nil]
  refine wpAny_bind (wpAny_bind ?_)
  refine nextOrEnd_end (s := ⟨p2, g, d, tk0, os⟩) D2 st2' fun p3 hp3 => ?_
  replace hp3 : Heap.ExtBut i2 p2 p3 := hp3
  simp only [Option.isSome_none, Bool.false_eq_true, if_false]
  refine wpAny_pure ?_
  try dsimp only
  refine wpAny_pure ?_
  refine wpAny_bind (wpAny_rule ?_)
  show wpAny _ _ (newExc (.type "StopIteration") [] >>= _) _ _ _
  refine wpAny_bind ?_
  simp only [newExc, newTuple]
  refine wpAny_bind (wpAny_newObj_type ?_ (by size_fits))
  refine wpAny_bind (m := firstArgMember _ _) (wpAny_of_eq (a := Value.none) (by first | rfl | (simp only [firstArgMember]; rfl)) ?_)
  refine wpAny_newObj_type ?_ (by size_fits)
  simp only [raiseNew]
  refine wpAny_bind (wpAny_handled ?_)
  rw [show A.handled = none from hh]
  refine wpAny_bind (wpAny_pure (wpAny_throw ?_))
  refine hE _ _ _ (fun c o cz cT c1 c2 e => ?_) ⟨_, Heap.get?_push_size _ rfl, rfl⟩
  exact Heap.get?_push_of_some _ (Heap.get?_push_of_some _ (hp3 _ _ c2 (hp2.extBut _ _ cz (lT1 c o cz c1 e))))

theorem wpAny_pyNext_zipS_item {Q : Option Value → Shared → Prop} (S : ZipSep2 z TI TO i1 i2 fp1 fp2) (D1 : Draws prog w A.in1 i1 fp1 n1 P1 St1) (D2 : Draws prog w A.in1 i2 fp2 n2 P2 St2)
    (hz : IsZipS s.heap z TI TO .none) (hTI : IsTupOf2 s.heap TI (.ref i1) (.ref i2)) (hTO : IsTupOf2 s.heap TO a1 a2) (st1 : St1 i s.heap) (st2 : St2 i s.heap) (hlt1 : i < n1) (hlt2 : i < n2)
    (hQ : ∀ x1 x2 h' tk, P1 i x1 → P2 i x2 → IsZipS h' z TI TO (rawInt s.heap.objs.size) → IsTupOf2 h' TO x1 x2 → St1 (i + 1) h' → St2 (i + 1) h' → IsTupOf2 h' s.heap.objs.size x1 x2 → h'.objs.size = s.heap.objs.size + 1 →
      (∀ c o, c ≠ z → c ≠ TO → c ≠ i1 → c ≠ i2 → s.heap.get? c = some o → h'.get? c = some o) → Q (some (.ref s.heap.objs.size)) { s with heap := h', toks := tk }) :
    wpAny (model prog w) A (pyNext (.ref z)) Q E s := by
  have hT : s.TypeIs (.ref z) "zip" := ⟨_, hz, rfl⟩
  unfold pyNext
  exact wpAny_bind (wpAny_attempt (wpAny_callSpecial?_slot (name := Str.ofString "__next__") hT F.slot_zip_next
    (wpAny_call_entry F.slot_zip_next hT F.entry_zip_next
      (zipS_next_item S D1 D2 hz hTI hTO st1 st2 hlt1 hlt2 fun x1 x2 h' tk y1 y2 b1 b2 d1 d2 b5 b6 b7 => wpAny_pure (hQ x1 x2 h' tk y1 y2 b1 b2 d1 d2 b5 b6 b7)) (F.args_zip_next_1 _))))
theorem wpAny_pyNext_zipS_end {Q : Option Value → Shared → Prop} (hh : A.handled = none) (S : ZipSep2 z TI TO i1 i2 fp1 fp2) (D1 : Draws prog w A.in1 i1 fp1 n1 P1 St1) (D2 : Draws prog w A.in1 i2 fp2 n2 P2 St2)
    (hz : IsZipS s.heap z TI TO .none) (hTI : IsTupOf2 s.heap TI (.ref i1) (.ref i2)) (st1 : St1 n1 s.heap) (st2 : St2 n2 s.heap)
    (hQ : ∀ h' tk, (∀ c o, c ≠ z → c ≠ TO → c ≠ i1 → c ≠ i2 → s.heap.get? c = some o → h'.get? c = some o) → Q none { s with heap := h', toks := tk }) : wpAny (model prog w) A (pyNext (.ref z)) Q E s := by
  have hT : s.TypeIs (.ref z) "zip" := ⟨_, hz, rfl⟩
  unfold pyNext
  refine wpAny_bind (wpAny_attempt (wpAny_callSpecial?_slot (name := Str.ofString "__next__") hT F.slot_zip_next
    (wpAny_call_entry F.slot_zip_next hT F.entry_zip_next (zipS_next_end (A := A.in1) hh S D1 D2 hz hTI st1 st2 fun h' tk e hk he => ?_) (F.args_zip_next_1 _))))
  obtain ⟨o, ho, hc⟩ := he
  refine wpAny_bind (wpAny_isInstance (T := "StopIteration") (b := true) ⟨o, ho, hc⟩ isSubtype_stop ?_)
  exact wpAny_pure (hQ _ _ hk)
theorem wpAny_letOwnedTupleGo_zipS {elts : List Expr} {x1} {pos : Pos} {z TI TO T : Addr} {Q : Unit → Shared → Prop} (hz : IsZipS s.heap z TI TO (rawInt T))
    (hQ : ∀ h', IsZipS h' z TI TO .none → Heap.SameBut z s.heap h' → Q () { s with heap := h' }) :
    wpAny (model prog w) A (letOwnedTupleGo (.Tuple elts x1 pos) (.ref z) (.ref T)) Q E s := by
  unfold letOwnedTupleGo
  refine wpAny_bind (wpAny_load hz ?_)
  show wpAny _ _ (if (["enumerate", "zip", "dict_itemiterator", "dict_reverseitemiterator", "odict_iterator", "itertools.zip_longest", "itertools.pairwise"].contains "zip" &&
      (#[rawInt T, .bool false, .bool true, .ref TI, .ref TO] : Array Value)[0]? == some (rawInt T)) = true then _ else _) Q E s
  rw [if_pos (by simp)]
  refine wpAny_bind (wpAny_rule ?_)
  show wpAny _ _ (setField (.ref z) 0 .none) Q E s
  exact wpAny_setField_rec hz (by simp) fun h' hz' hs' => hQ h' hz' hs'
theorem wpAny_pyIter_zipS {z TI TO : Addr} {f0 : Value} {Q : Value → Shared → Prop} (hz : IsZipS s.heap z TI TO f0) (h : Q (.ref z) s) : wpAny (model prog w) A (pyIter (.ref z)) Q E s := by
  have hT : s.TypeIs (.ref z) "zip" := ⟨_, hz, rfl⟩
  refine wpAny_pyIter_slot hT F.slot_zip_iter (wpAny_call_entry F.slot_zip_iter hT F.entry_zip_iter ?_ (F.args_zip_iter_1 _))
  show wpAny _ _ (ret (.ref z)) _ _ s
  exact wpAny_pure ⟨_, rfl, "zip", _, hT, F.slot_zip_next.lookup, h⟩
end
theorem typeCall_zip_strict (a b c : Value) : checkTypeCall "zip" ⟨[a, b], [(Str.ofString "strict", c)]⟩ = pure () := by kernel_rfl
theorem newCall_zip_strict (a b c : Value) : checkBuiltinCall "zip.__new__" ⟨[.type "zip", a, b], [(Str.ofString "strict", c)]⟩ = pure () := by kernel_rfl
theorem args_object_init_strict (obj a b c : Value) : argsOk "object.__init__" ⟨[obj, a, b], [(Str.ofString "strict", c)]⟩ := by unfold argsOk; kernel_rfl
abbrev gzSZ (h : Heap) (o1 o2 : Obj) : Heap := (gzO2 h o1 o2).push { cls := .type "zip", data := .fields #[.none, .bool false, .bool true, .ref ((h.push o1).push o2).objs.size, .ref (gzT2 h o1 o2).objs.size] }
theorem meets_zip_newS {v1 v2 : Value} {o1 o2 : Obj} {H1 H2 : Heap → Prop} (B1 : Begins v1 o1 H1) (B2 : Begins v2 o2 H2) :
    Meets (Builtin.«zip.__new__» ⟨[.type "zip", v1, v2], [(Str.ofString "strict", .bool true)]⟩) (fun _ R s => (H1 s.heap ∧ H2 s.heap) ∧
      R (.ok (.ret (.ref (gzO2 s.heap o1 o2).objs.size))) { s with heap := gzSZ s.heap o1 o2 }) :=
  .of_wp fun prog w A R s h => by
    obtain ⟨hp, g, d, tk, os⟩ := s; obtain ⟨⟨h1, h2⟩, h⟩ := h
    have hsub := sub_zip
    have e2 : (Str.ofString "strict" != ("strict" : Str)) = false := by decide +kernel
    have q1 : ∀ {A' : Around} {E : Value → Shared → Prop} {Q : Value → Shared → Prop}, Q (.ref hp.objs.size) ⟨(hp.push o1), g, d, tk, os⟩ → wpAny (model prog w) A' (pyIter v1) Q E ⟨hp, g, d, tk, os⟩ :=
      fun q => B1.iter prog w _ _ ⟨hp, g, d, tk, os⟩ _ (B1.keeps _ _ h1 fun b o' e => e) q
    have q2 : ∀ {A' : Around} {E : Value → Shared → Prop} {Q : Value → Shared → Prop}, Q (.ref (hp.push o1).objs.size) ⟨((hp.push o1).push o2), g, d, tk, os⟩ → wpAny (model prog w) A' (pyIter v2) Q E ⟨(hp.push o1), g, d, tk, os⟩ :=
      fun q => B2.iter prog w _ _ ⟨(hp.push o1), g, d, tk, os⟩ _ (B2.keeps _ _ h2 fun b o' e => (Heap.get?_push_of_some _ e)) q
    wp_walk using q1, q2
    exact ⟨_, rfl, h⟩
end JT
namespace JT
open PySem PySem.Spec PyProof.Rows L2
section
variable {prog : Program} {w : World} {A : Around} {E : Value → Shared → Prop} {s : Shared}
theorem zipS_begins {v1 v2 : Value} {o1 o2 : Obj} {H1 H2 : Heap → Prop} {Q : Value → Shared → Prop} (B1 : Begins v1 o1 H1) (B2 : Begins v2 o2 H2) (h1 : H1 s.heap) (h2 : H2 s.heap)
    (h : ∀ h', IsZipS h' (s.heap.objs.size + 4) (s.heap.objs.size + 2) (s.heap.objs.size + 3) .none → IsTupOf2 h' (s.heap.objs.size + 2) (.ref s.heap.objs.size) (.ref (s.heap.objs.size + 1)) →
      IsTupOf2 h' (s.heap.objs.size + 3) .none .none → h'.get? s.heap.objs.size = some o1 → h'.get? (s.heap.objs.size + 1) = some o2 → h'.objs.size = s.heap.objs.size + 5 →
      (∀ c o, s.heap.get? c = some o → h'.get? c = some o) → Q (.ref (s.heap.objs.size + 4)) { s with heap := h' }) :
    wpAny (model prog w) A (call (.type "zip") [v1, v2] [(Str.ofString "strict", .bool true)]) Q E s := by
  refine callType_newKw F.called_zip (by decide) (typeCall_zip_strict _ _ _) (newCall_zip_strict _ _ _) (fun obj => args_object_init_strict obj _ _ _) F.entry_zip_new
    (meets_zip_newS B1 B2) ⟨⟨h1, h2⟩, ?_⟩
  have z1 : (s.heap.push o1).objs.size = s.heap.objs.size + 1 := by rw [Heap.size_push]
  have z2 : ((s.heap.push o1).push o2).objs.size = s.heap.objs.size + 2 := by rw [Heap.size_push, z1]
  have zT : (gzT2 s.heap o1 o2).objs.size = s.heap.objs.size + 3 := by rw [Heap.size_push, z2]
  have zO : (gzO2 s.heap o1 o2).objs.size = s.heap.objs.size + 4 := by rw [Heap.size_push, zT]
  have zZ : (gzSZ s.heap o1 o2).objs.size = s.heap.objs.size + 5 := by rw [Heap.size_push, zO]
  have gZ : (gzSZ s.heap o1 o2).get? (gzO2 s.heap o1 o2).objs.size = some { cls := .type "zip", data := .fields #[.none, .bool false, .bool true, .ref ((s.heap.push o1).push o2).objs.size, .ref (gzT2 s.heap o1 o2).objs.size] } := Heap.get?_push_size _ rfl
  have gO : (gzSZ s.heap o1 o2).get? (gzT2 s.heap o1 o2).objs.size = some { cls := .type "tuple", data := .seq #[.none, .none] } := Heap.get?_push_of_some _ (Heap.get?_push_size _ rfl)
  have gT : (gzSZ s.heap o1 o2).get? ((s.heap.push o1).push o2).objs.size = some { cls := .type "tuple", data := .seq #[.ref s.heap.objs.size, .ref (s.heap.push o1).objs.size] } := Heap.get?_push_of_some _ (Heap.get?_push_of_some _ (Heap.get?_push_size _ rfl))
  have g1 : (gzSZ s.heap o1 o2).get? s.heap.objs.size = some o1 := Heap.get?_push_of_some _ (Heap.get?_push_of_some _ (Heap.get?_push_of_some _ (Heap.get?_push_of_some _ (Heap.get?_push_size _ B1.free))))
  have g2 : (gzSZ s.heap o1 o2).get? (s.heap.push o1).objs.size = some o2 := Heap.get?_push_of_some _ (Heap.get?_push_of_some _ (Heap.get?_push_of_some _ (Heap.get?_push_size _ B2.free)))
  rw [zO, zT, z2] at gZ
  rw [zT] at gO
  rw [z2, z1] at gT
  rw [z1] at g2
  show _ ∧ _
  rw [zO]
  exact ⟨⟨_, gZ, rfl⟩, h _ gZ gT gO g1 g2 zZ fun c o e => Heap.get?_push_of_some _ (Heap.get?_push_of_some _ (Heap.get?_push_of_some _ (Heap.get?_push_of_some _ (Heap.get?_push_of_some _ e))))⟩
end

/-! ### zip of a list and a tuple -/
def ItzLT (K : PySem.W.Frag) (a b : Addr) : It :=
  ⟨fun i H => ∃ (xs ys : List V) (x y : V), SqL K H a xs ∧ SqT K H b ys ∧ xs[i]? = some x ∧ ys[i]? = some y,
    fun i H v H' => ∃ T x y, v = .ref T ∧ H T = none ∧ H' = upd H T (.tup [x, y]) ∧ (∀ xs, SqL K H a xs → xs[i]? = some x) ∧ ∀ ys, SqT K H b ys → ys[i]? = some y,
    fun i H => ∃ xs ys : List V, SqL K H a xs ∧ SqT K H b ys ∧ xs.length = i ∧ ys.length = i⟩
def ItzTS (K : PySem.W.Frag) (a b : Addr) : It :=
  ⟨fun i H => ∃ (xs ys : List V) (x y : V), SqT K H a xs ∧ SqT K H b ys ∧ xs[i]? = some x ∧ ys[i]? = some y,
    fun i H v H' => ∃ T x y, v = .ref T ∧ H T = none ∧ H' = upd H T (.tup [x, y]) ∧ (∀ xs, SqT K H a xs → xs[i]? = some x) ∧ ∀ ys, SqT K H b ys → ys[i]? = some y,
    fun i H => ∃ xs ys : List V, SqT K H a xs ∧ SqT K H b ys ∧ xs.length = i ∧ ys.length = i⟩
theorem turn_zipLT {P : Program} {w : World} {K : PySem.W.Frag} {elts : List Expr} {kk : Nat} {tpos : Pos} {a b z TI TO i1 i2 : Addr} (D : ZipSep2 z TI TO i1 i2 [i1, a] [i2, b]) (hne1 : a ≠ i1) (hne2 : b ≠ i2) :
    Turn P w K (.Tuple elts kk tpos) (ItzLT K a b) [z, TI, TO, i1, i2] z (fun i h => IsZip h z TI TO .none ∧ IsTupOf2 h TI (.ref i1) (.ref i2) ∧ (∃ x y, IsTupOf2 h TO x y) ∧ h.IsListIter i1 a i ∧ h.IsTupleIter i2 b i) where
  mem := by simp
  obj := fun i h st c hc => by
    obtain ⟨hz, hTI, ⟨x, y, hTO⟩, ⟨o1, e1, _, d1⟩, ⟨o2, e2, _, d2⟩⟩ := st
    have e' : c = z ∨ c = TI ∨ c = TO ∨ c = i1 ∨ c = i2 := by simpa using hc
    rcases e' with q | q | q | q | q
    · rw [q]; exact ⟨_, hz, fun v q => nomatch q⟩
    · rw [q]; exact ⟨_, hTI, fun v q => nomatch q⟩
    · rw [q]; exact ⟨_, hTO, fun v q => nomatch q⟩
    · rw [q]; exact ⟨o1, e1, fun v q => by rw [d1] at q; cases q⟩
    · rw [q]; exact ⟨o2, e2, fun v q => by rw [d2] at q; cases q⟩
  keep := fun i h h' st k => by
    obtain ⟨hz, hTI, ⟨x, y, hTO⟩, h1, h2⟩ := st
    exact ⟨k z (by simp) _ hz, k TI (by simp) _ hTI, ⟨x, y, k TO (by simp) _ hTO⟩, h1.at fun o q => k i1 (by simp) o q, h2.at fun o q => k i2 (by simp) o q⟩
  item := by
    intro X hP hw hK hc i pins s σ H E I hf st hg
    subst hP hw hK
    obtain ⟨hz, hTI, ⟨x0, y0, hTO⟩, h1, h2⟩ := st
    obtain ⟨xs, ys, x, y, hqx, hqy, hx, hy⟩ := hg
    obtain ⟨its, rv, p, _⟩ := I.list hqx
    obtain ⟨its2, rv2, p2, _⟩ := I.tuple hqy
    obtain ⟨u, hu, ru⟩ := rv.get hx
    obtain ⟨u2, hu2, ru2⟩ := rv2.get hy
    have hzl : z < s.heap.objs.size := Heap.lt_size hz
    have lt1 : i < its.toArray.size := by have := (List.getElem?_eq_some_iff.mp hu).1; simpa using this
    have lt2 : i < its2.toArray.size := by have := (List.getElem?_eq_some_iff.mp hu2).1; simpa using this
    refine wpAny_pyNext_zipD2_item D (Draws.list (prog := X.prog) (w := X.w) (A := X.A.in1) (I.ok.hd hc) i1 a hne1 its.toArray) (Draws.tuple (prog := X.prog) (w := X.w) (A := X.A.in1) (I.ok.hd hc) i2 b hne2 its2.toArray) hz hTI hTO ⟨h1, p.isList⟩ ⟨h2, p2⟩ lt1 lt2 fun v1 v2 h' tk q1 q2 z' TO' h1' h2' hT hsz hk => ?_
    obtain rfl : v1 = u := by
      have e1 : its.toArray[i]? = some u := by simpa using hu
      rw [e1] at q1
      exact (Option.some.inj q1).symm
    obtain rfl : v2 = u2 := by
      have e1 : its2.toArray[i]? = some u2 := by simpa using hu2
      rw [e1] at q2
      exact (Option.some.inj q2).symm
    refine ⟨_, rfl, wpAny_letOwnedTupleGo_zip (s := { s with heap := h', toks := tk }) z' fun h'' z'' sb => ?_⟩
    have hT2 : h''.get? s.heap.objs.size = some { cls := .type "tuple", data := .seq #[v1, v2] } := (sb.2 _ (Nat.ne_of_gt hzl)).trans hT
    have new : ObjOk X.prog X.w (upd H s.heap.objs.size (.tup [x, y])) h'' s.heap.objs.size (.tup [x, y]) :=
      ⟨by show 2 ≤ sizeLine; decide, [v1, v2], .cons ru (.cons ru2 .nil), ⟨_, hT2, rfl, _, rfl⟩⟩
    have I1 : Inv X pins σ (upd H s.heap.objs.size (.tup [x, y])) { s with heap := h'', toks := tk } :=
      I.turnedNew (t' := tk) (ch := [z, TI, TO, i1, i2]) (fun c o hb q => (sb.2 c (fun q' => hb (by simp [q']))).trans (hk c o (fun q' => hb (by simp [q'])) (fun q' => hb (by simp [q'])) (fun q' => hb (by simp [q'])) (fun q' => hb (by simp [q'])) q)) hf (Nat.le_refl _) new
    refine ⟨.ref s.heap.objs.size, _, I1, rfl, ⟨_, x, y, rfl, I.hok.fresh (Nat.le_refl _), rfl, fun l hl => by rw [I.list_inj hl hqx]; exact hx, fun l hl => by rw [I.tuple_inj hl hqy]; exact hy⟩, ⟨z'', ?_, ⟨v1, v2, ?_⟩, ?_, ?_⟩, fun c hcm => ?_⟩
    · exact (sb.2 _ D.TIz).trans (hk _ _ D.TIz D.TITO D.TIi1 D.TIi2 hTI)
    · exact (sb.2 _ D.TOz).trans TO'
    · exact h1'.1.at fun o q => (sb.2 _ D.zi1.symm).trans q
    · exact h2'.1.at fun o q => (sb.2 _ D.zi2.symm).trans q
    · have hlt : c < s.heap.objs.size := by
        have e' : c = z ∨ c = TI ∨ c = TO ∨ c = i1 ∨ c = i2 := by simpa using hcm
        rcases e' with q | q | q | q | q
        · rw [q]; exact hzl
        · rw [q]; exact Heap.lt_size hTI
        · rw [q]; exact Heap.lt_size hTO
        · rw [q]; obtain ⟨_, e1, _⟩ := h1; exact Heap.lt_size e1
        · rw [q]; obtain ⟨_, e2, _⟩ := h2; exact Heap.lt_size e2
      rw [upd_ne (Nat.ne_of_lt hlt)]
      exact (hf c hcm).1
  done := by
    intro X hP hw hK hc i pins s σ H E I hf st hg
    subst hP hw hK
    obtain ⟨hz, hTI, ⟨x0, y0, hTO⟩, h1, h2⟩ := st
    obtain ⟨xs, ys, hqx, hqy, e1, e2⟩ := hg
    obtain ⟨its, rv, p, _⟩ := I.list hqx
    obtain ⟨its2, rv2, p2, _⟩ := I.tuple hqy
    have l1 := rv.length
    have l2 := rv2.length
    have n1 : i = its.toArray.size := by simp; omega
    have n2 : i = its2.toArray.size := by simp; omega
    exact wpAny_pyNext_zipD2_end D (Draws.list (prog := X.prog) (w := X.w) (A := X.A.in1) (I.ok.hd hc) i1 a hne1 its.toArray) (Draws.tuple (prog := X.prog) (w := X.w) (A := X.A.in1) (I.ok.hd hc) i2 b hne2 its2.toArray) hz hTI hTO ⟨h1, p.isList⟩ ⟨h2, p2⟩ (Nat.le_of_eq n1) (Nat.le_of_eq n2) (.inl n1) fun h' tk hk => ⟨rfl, I.turnedL (t' := tk) (ch := [z, TI, TO, i1, i2]) (fun c o hb q =>
      hk c o (fun q' => hb (by simp [q'])) (fun q' => hb (by simp [q'])) (fun q' => hb (by simp [q'])) (fun q' => hb (by simp [q'])) q) hf⟩
  self := fun A i s Q E st h => wpAny_pyIter_zip st.1 h
theorem turn_zipTS {P : Program} {w : World} {K : PySem.W.Frag} {elts : List Expr} {kk : Nat} {tpos : Pos} {a b z TI TO i1 i2 : Addr} (D : ZipSep2 z TI TO i1 i2 [i1, a] [i2, b]) (hne1 : a ≠ i1) (hne2 : b ≠ i2) :
    Turn P w K (.Tuple elts kk tpos) (ItzTS K a b) [z, TI, TO, i1, i2] z (fun i h => IsZipS h z TI TO .none ∧ IsTupOf2 h TI (.ref i1) (.ref i2) ∧ (∃ x y, IsTupOf2 h TO x y) ∧ h.IsTupleIter i1 a i ∧ h.IsTupleIter i2 b i) where
  mem := by simp
  obj := fun i h st c hc => by
    obtain ⟨hz, hTI, ⟨x, y, hTO⟩, ⟨o1, e1, _, d1⟩, ⟨o2, e2, _, d2⟩⟩ := st
    have e' : c = z ∨ c = TI ∨ c = TO ∨ c = i1 ∨ c = i2 := by simpa using hc
    rcases e' with q | q | q | q | q
    · rw [q]; exact ⟨_, hz, fun v q => nomatch q⟩
    · rw [q]; exact ⟨_, hTI, fun v q => nomatch q⟩
    · rw [q]; exact ⟨_, hTO, fun v q => nomatch q⟩
    · rw [q]; exact ⟨o1, e1, fun v q => by rw [d1] at q; cases q⟩
    · rw [q]; exact ⟨o2, e2, fun v q => by rw [d2] at q; cases q⟩
  keep := fun i h h' st k => by
    obtain ⟨hz, hTI, ⟨x, y, hTO⟩, h1, h2⟩ := st
    exact ⟨k z (by simp) _ hz, k TI (by simp) _ hTI, ⟨x, y, k TO (by simp) _ hTO⟩, h1.at fun o q => k i1 (by simp) o q, h2.at fun o q => k i2 (by simp) o q⟩
  item := by
    intro X hP hw hK hc i pins s σ H E I hf st hg
    subst hP hw hK
    obtain ⟨hz, hTI, ⟨x0, y0, hTO⟩, h1, h2⟩ := st
    obtain ⟨xs, ys, x, y, hqx, hqy, hx, hy⟩ := hg
    obtain ⟨its, rv, p, _⟩ := I.tuple hqx
    obtain ⟨its2, rv2, p2, _⟩ := I.tuple hqy
    obtain ⟨u, hu, ru⟩ := rv.get hx
    obtain ⟨u2, hu2, ru2⟩ := rv2.get hy
    have hzl : z < s.heap.objs.size := Heap.lt_size hz
    have lt1 : i < its.toArray.size := by have := (List.getElem?_eq_some_iff.mp hu).1; simpa using this
    have lt2 : i < its2.toArray.size := by have := (List.getElem?_eq_some_iff.mp hu2).1; simpa using this
    refine wpAny_pyNext_zipS_item D (Draws.tuple (prog := X.prog) (w := X.w) (A := X.A.in1) (I.ok.hd hc) i1 a hne1 its.toArray) (Draws.tuple (prog := X.prog) (w := X.w) (A := X.A.in1) (I.ok.hd hc) i2 b hne2 its2.toArray) hz hTI hTO ⟨h1, p⟩ ⟨h2, p2⟩ lt1 lt2 fun v1 v2 h' tk q1 q2 z' TO' h1' h2' hT hsz hk => ?_
    obtain rfl : v1 = u := by
      have e1 : its.toArray[i]? = some u := by simpa using hu
      rw [e1] at q1
      exact (Option.some.inj q1).symm
    obtain rfl : v2 = u2 := by
      have e1 : its2.toArray[i]? = some u2 := by simpa using hu2
      rw [e1] at q2
      exact (Option.some.inj q2).symm
    refine ⟨_, rfl, wpAny_letOwnedTupleGo_zipS (s := { s with heap := h', toks := tk }) z' fun h'' z'' sb => ?_⟩
    have hT2 : h''.get? s.heap.objs.size = some { cls := .type "tuple", data := .seq #[v1, v2] } := (sb.2 _ (Nat.ne_of_gt hzl)).trans hT
    have new : ObjOk X.prog X.w (upd H s.heap.objs.size (.tup [x, y])) h'' s.heap.objs.size (.tup [x, y]) :=
      ⟨by show 2 ≤ sizeLine; decide, [v1, v2], .cons ru (.cons ru2 .nil), ⟨_, hT2, rfl, _, rfl⟩⟩
    have I1 : Inv X pins σ (upd H s.heap.objs.size (.tup [x, y])) { s with heap := h'', toks := tk } :=
      I.turnedNew (t' := tk) (ch := [z, TI, TO, i1, i2]) (fun c o hb q => (sb.2 c (fun q' => hb (by simp [q']))).trans (hk c o (fun q' => hb (by simp [q'])) (fun q' => hb (by simp [q'])) (fun q' => hb (by simp [q'])) (fun q' => hb (by simp [q'])) q)) hf (Nat.le_refl _) new
    refine ⟨.ref s.heap.objs.size, _, I1, rfl, ⟨_, x, y, rfl, I.hok.fresh (Nat.le_refl _), rfl, fun l hl => by rw [I.tuple_inj hl hqx]; exact hx, fun l hl => by rw [I.tuple_inj hl hqy]; exact hy⟩, ⟨z'', ?_, ⟨v1, v2, ?_⟩, ?_, ?_⟩, fun c hcm => ?_⟩
    · exact (sb.2 _ D.TIz).trans (hk _ _ D.TIz D.TITO D.TIi1 D.TIi2 hTI)
    · exact (sb.2 _ D.TOz).trans TO'
    · exact h1'.1.at fun o q => (sb.2 _ D.zi1.symm).trans q
    · exact h2'.1.at fun o q => (sb.2 _ D.zi2.symm).trans q
    · have hlt : c < s.heap.objs.size := by
        have e' : c = z ∨ c = TI ∨ c = TO ∨ c = i1 ∨ c = i2 := by simpa using hcm
        rcases e' with q | q | q | q | q
        · rw [q]; exact hzl
        · rw [q]; exact Heap.lt_size hTI
        · rw [q]; exact Heap.lt_size hTO
        · rw [q]; obtain ⟨_, e1, _⟩ := h1; exact Heap.lt_size e1
        · rw [q]; obtain ⟨_, e2, _⟩ := h2; exact Heap.lt_size e2
      rw [upd_ne (Nat.ne_of_lt hlt)]
      exact (hf c hcm).1
  done := by
    intro X hP hw hK hc i pins s σ H E I hf st hg
    subst hP hw hK
    obtain ⟨hz, hTI, ⟨x0, y0, hTO⟩, h1, h2⟩ := st
    obtain ⟨xs, ys, hqx, hqy, e1, e2⟩ := hg
    obtain ⟨its, rv, p, _⟩ := I.tuple hqx
    obtain ⟨its2, rv2, p2, _⟩ := I.tuple hqy
    have l1 := rv.length
    have l2 := rv2.length
    have n1 : its.toArray.size = i := by simp; omega
    have n2 : its2.toArray.size = i := by simp; omega
    have DD1 := Draws.tuple (prog := X.prog) (w := X.w) (A := X.A.in1) (I.ok.hd hc) i1 a hne1 its.toArray
    have DD2 := Draws.tuple (prog := X.prog) (w := X.w) (A := X.A.in1) (I.ok.hd hc) i2 b hne2 its2.toArray
    rw [n1] at DD1
    rw [n2] at DD2
    exact wpAny_pyNext_zipS_end (A := X.A) (I.ok.hd hc) D DD1 DD2 hz hTI ⟨h1, p⟩ ⟨h2, p2⟩ fun h' tk hk => ⟨rfl, I.turnedL (t' := tk) (ch := [z, TI, TO, i1, i2]) (fun c o hb q =>
      hk c o (fun q' => hb (by simp [q'])) (fun q' => hb (by simp [q'])) (fun q' => hb (by simp [q'])) (fun q' => hb (by simp [q'])) q) hf⟩
  self := fun A i s Q E st h => wpAny_pyIter_zipS st.1 h
theorem five {N a b : Nat} {P : Nat → Prop} (h : ∀ c, N ≤ c → P c) : ∀ c, c ∈ [N + 4, N + 2, N + 3, N, N + 1] → P c := fun c hc => by
  have e' : c = N + 4 ∨ c = N + 2 ∨ c = N + 3 ∨ c = N ∨ c = N + 1 := by simpa using hc
  exact h c (by omega)
def iZipLT (K : PySem.W.Frag) (ta : TA) : TI := fun σ H R => ta σ H fun vs H1 => ∃ a b xs ys, vs = [.ref a, .ref b] ∧ SqL K H1 a xs ∧ SqT K H1 b ys ∧ R (ItzLT K a b) H1
theorem pi_zipLT {X : Cx} {e e2 : Expr} {ta : TA} {p pos tpos : Pos} {elts : List Expr} {kk : Nat} (hg : Gl X "zip") (hm : X.mg "zip" = none) (ha : PA X [e, e2] ta)
    (hs : starEach [e, e2] X.env = (false, eval e X.env) :: starEach [e2] X.env := by rfl) (hpl : (backTo pos (starEach [e2] X.env)).any (·.1) = false := by rfl) :
    PI X (.Tuple elts kk tpos) (.Call (.Name "zip" p) [e, e2] [] pos) (iZipLT X.K ta) := by
  refine ⟨fun pins s σ H R I h => ?_⟩
  refine Call_ (ld_blt I hg hm PyProof.Rows.boot_zip (PyProof.Rows.callWith_type1 (thn (ha.run pos pins s σ H _ I h) fun us s1 ⟨vs, H1, I1, r1, q1⟩ => ?_) hs hpl))
  obtain ⟨a, b, xs, ys, ex, hqx, hqy, q⟩ := q1
  subst ex
  cases r1 with
  | cons r rr =>
    cases rr with
    | cons r' rr =>
      cases rr
      cases r
      cases r'
      obtain ⟨its, rv, p1, _⟩ := I1.list hqx
      obtain ⟨its2, rv2, p2, _⟩ := I1.tuple hqy
      have la : a < s1.heap.objs.size := p1.lt
      have lb : b < s1.heap.objs.size := by obtain ⟨o, ho, _⟩ := id p2; exact Heap.lt_size ho
      refine zip_begins2 (begins_list a its.toArray) (begins_tuple b its2.toArray) p1.isList p2 fun h' hz hTI hTO h1 h2 hsz hk => wpAny_pyIter_zip hz ?_
      have I2 : Inv X pins σ H1 { s1 with heap := h' } := I1.kept (t' := s1.toks) hk
      exact ⟨s1.heap.objs.size + 4, [s1.heap.objs.size + 4, s1.heap.objs.size + 2, s1.heap.objs.size + 3, s1.heap.objs.size, s1.heap.objs.size + 1], _, _, H1, rfl, I2,
        turn_zipLT (zip_sep2 (by intro c hc; rw [List.mem_singleton.mp hc]; exact la) (by intro c hc; rw [List.mem_singleton.mp hc]; exact lb)) (Nat.ne_of_lt la) (Nat.ne_of_lt (Nat.lt_succ_of_lt lb)), ⟨hz, hTI, ⟨_, _, hTO⟩, ⟨_, h1, rfl, rfl⟩, ⟨_, h2, rfl, rfl⟩⟩,
        five (a := a) (b := b) (fun c hle => I1.fpOk hle (I1.hok.fresh hle)), q⟩

theorem callWith_type_kwB {M : Model} {A : Around} {E : Value → Shared → Prop} {s : Shared} {pos : Pos} {T : String} {first : List Value} {args : List (Bool × Sem Value)} {keywords : List (Option Str × Sem Value)} {Q : Value → Shared → Prop}
    (hplain : args.any (·.1) = false) (hkw : keywords.any (·.1.isNone) = false)
    (h : wpAny M A (evalArgs (.type T) true args keywords) (fun a s₁ => wpAny M A (call (.type T) (first ++ a.pos) a.kw) Q E s₁) E s) :
    wpAny M A (callWith pos (.type T) first args keywords) Q E s := by
  unfold callWith
  refine wpAny_bind (wpAny_holding (wpAny_mono h (fun a s₁ h₁ => wpAny_bind (wpAny_standAt ?_)) fun _ _ x => x))
  simp only [hplain, hkw, Bool.or_false]
  refine wpAny_bind (wpAny_pure ?_)
  exact wpAny_bind (wpAny_mono h₁ (fun r s₂ hr => wpAny_bind (wpAny_holding (wpAny_point (wpAny_pure hr)))) fun _ _ x => x)
def iZipTS (K : PySem.W.Frag) (ta : TA) : TI := fun σ H R => ta σ H fun vs H1 => ∃ a b xs ys, vs = [.ref a, .ref b] ∧ SqT K H1 a xs ∧ SqT K H1 b ys ∧ R (ItzTS K a b) H1
theorem pi_zipTS {X : Cx} {e e2 : Expr} {ta : TA} {p pos tpos kpos cpos : Pos} {elts : List Expr} {kk jj : Nat} (hg : Gl X "zip") (hm : X.mg "zip" = none) (ha : PA X [e, e2] ta)
    (he : starEach [e, e2] X.env = (false, eval e X.env) :: starEach [e2] X.env := by rfl) (hpl : (backTo pos (starEach [e, e2] X.env)).any (·.1) = false := by rfl) :
    PI X (.Tuple elts kk tpos) (.Call (.Name "zip" p) [e, e2] [⟨some "strict", .Constant (.bool true) jj cpos, kpos⟩] pos) (iZipTS X.K ta) := by
  refine ⟨fun pins s σ H R I h => ?_⟩
  refine wpAny_Call_Name_kw (ld_blt I hg hm PyProof.Rows.boot_zip ?_)
  refine callWith_type_kwB hpl rfl ?_
  refine PyProof.Rows.evalArgs_kw2 rfl (thn (ha.run pos pins s σ H _ I h) fun us s1 ⟨vs, H1, I1, r1, q1⟩ => ?_) he
  have pk : PK X [⟨some "strict", .Constant (.bool true) jj cpos, kpos⟩] (tCons (tC (.bl true)) tNil) := pk_cons pe_bl pk_nil
  refine thn (pk.run pos pins s1 σ H1 (fun zs H2 => zs = [.bl true] ∧ H2 = H1) I1 ⟨rfl, rfl⟩) fun ws s2 ⟨zs, H2, I2, r2, e1, e2⟩ => ?_
  subst e1
  rw [e2] at I2
  obtain ⟨w1, rfl, ew⟩ := vals1 r2
  obtain rfl : w1 = Value.bool true := ew
  obtain ⟨a, b, xs, ys, ex, hqx, hqy, q⟩ := q1
  subst ex
  cases r1 with
  | cons r rr =>
    cases rr with
    | cons r' rr =>
      cases rr
      cases r
      cases r'
      obtain ⟨its, rv, p1, _⟩ := I2.tuple hqx
      obtain ⟨its2, rv2, p2, _⟩ := I2.tuple hqy
      have la : a < s2.heap.objs.size := by obtain ⟨o, ho, _⟩ := id p1; exact Heap.lt_size ho
      have lb : b < s2.heap.objs.size := by obtain ⟨o, ho, _⟩ := id p2; exact Heap.lt_size ho
      refine zipS_begins (begins_tuple a its.toArray) (begins_tuple b its2.toArray) p1 p2 fun h' hz hTI hTO h1 h2 hsz hk => wpAny_pyIter_zipS hz ?_
      have I3 : Inv X pins σ H1 { s2 with heap := h' } := I2.kept (t' := s2.toks) hk
      exact ⟨s2.heap.objs.size + 4, [s2.heap.objs.size + 4, s2.heap.objs.size + 2, s2.heap.objs.size + 3, s2.heap.objs.size, s2.heap.objs.size + 1], _, _, H1, rfl, I3,
        turn_zipTS (zip_sep2 (by intro c hc; rw [List.mem_singleton.mp hc]; exact la) (by intro c hc; rw [List.mem_singleton.mp hc]; exact lb)) (Nat.ne_of_lt la) (Nat.ne_of_lt (Nat.lt_succ_of_lt lb)), ⟨hz, hTI, ⟨_, _, hTO⟩, ⟨_, h1, rfl, rfl⟩, ⟨_, h2, rfl, rfl⟩⟩,
        five (a := a) (b := b) (fun c hle => I2.fpOk hle (I2.hok.fresh hle)), q⟩
end JT
/-! L3: between. -/
namespace JT
open PySem PySem.Spec PyProof.Rows L2 PySem.W
abbrev s__law_between : Stmt := topS 75
abbrev n__law_between : List Str := ["_law_net_here", "_law_choice", "_law_ways_here", "_law_elders", "_law_at", "_law_join", "_law_side", "_law_leaves", "_law_found", "_law_a", "_law_road_here", "_law_b", "_law_other", "_law_common", "_law_row"]
theorem sc__law_between : FnScope n__law_between ["_law_net_here", "_law_choice"] (defScope s__law_between) :=
  ⟨rfl, rfl, rfl, by decide +kernel, rfl, by decide +kernel, by decide +kernel⟩
section
variable {P : Program} {w : World} {K : PySem.W.Frag} {mg : Str → Option Value} {base : Heap}
theorem inV_nats (x : Nat) (l : List Nat) : inV (natV x) (l.map natV) = decide (x ∈ l) := by
  unfold inV
  rw [List.any_map]
  have e : ∀ k : Nat, ((fun y => eqV y (natV x)) ∘ natV) k = (k == x) := fun k => by
    show ((k : Int) == (x : Int)) = (k == x)
    by_cases h : k = x
    · subst h
      rw [beq_self_eq_true, beq_self_eq_true]
    · have h2 : ¬ (k : Int) = (x : Int) := by omega
      rw [beq_eq_false_iff_ne.mpr h2, beq_eq_false_iff_ne.mpr h]
  by_cases h : x ∈ l
  · rw [decide_eq_true h, List.any_eq_true]
    exact ⟨x, h, by rw [e]; simp⟩
  · rw [decide_eq_false h, List.any_eq_false]
    intro k hk z
    rw [e] at z
    have z : k = x := by simpa using z
    subst z
    exact h hk
theorem flat_nats (l : List Nat) : (l.map natV).all flatV = true := by
  rw [List.all_map, List.all_eq_true]
  intro _ _
  rfl
theorem eq_nats (a b : Nat) : eqV (natV a) (natV b) = decide (a = b) := by
  show ((a : Int) == (b : Int)) = _
  by_cases h : a = b
  · subst h
    rw [beq_self_eq_true, decide_eq_true rfl]
  · have h2 : ¬ (a : Int) = (b : Int) := by omega
    rw [beq_eq_false_iff_ne.mpr h2, decide_eq_false h]
theorem kept_first {p : Nat → Bool} {f : Nat → V} {i : Nat} (hp : p i = true) (hn : ∀ j, j < i → p j = false) : ∀ n, i < n → (kept p f n)[0]? = some (f i) := by
  have h0 : ∀ j, j ≤ i → kept p f j = [] := by
    intro j
    induction j with
    | zero => intro _; rfl
    | succ j ih =>
      intro h
      rw [kept_succ, ih (by omega), hn j (by omega)]
      rfl
  intro n
  induction n with
  | zero => intro h; exact absurd h (Nat.not_lt_zero _)
  | succ n ih =>
    intro h
    rw [kept_succ]
    rcases Nat.lt_or_ge i n with q | q
    · have := ih q
      rw [List.getElem?_append_left (List.getElem?_eq_some_iff.mp this).1]
      exact this
    · have : i = n := by omega
      subst this
      rw [h0 i (Nat.le_refl _), hp]
      rfl
theorem mem_putK {κ : Type} [DecidableEq κ] {kvs : List (κ × V)} {k j : κ} {v u : V} (h : (j, u) ∈ putK kvs k v) : (j = k ∧ u = v) ∨ (j, u) ∈ kvs := by
  unfold putK at h
  split at h
  · obtain ⟨p, hp, e⟩ := List.mem_map.mp h
    by_cases q : p.1 = k
    · rw [if_pos q] at e
      injection e with e1 e2
      exact .inl ⟨by rw [← e1, q], e2.symm⟩
    · rw [if_neg q] at e
      rw [← e]
      exact .inr hp
  · rcases List.mem_append.mp h with h | h
    · exact .inr h
    · rw [List.mem_singleton] at h
      injection h with e1 e2
      exact .inl ⟨e1, e2⟩
/-- y: a leaf's name and its road -/
def LeafAt (H : Hp) (N : Net) (e : Nat → Nat) (y : V) (a : Str) (j : Nat) (rd : List Nat) (r : Addr) : Prop := ∃ q, y = .ref q ∧ H q = some (.tup [.str a, .ref r]) ∧ H r = some (.lst (rd.map natV)) ∧ N[j]? = some (Row.leaf a) ∧ ∀ i x, rd[i]? = some x ↔ Up e j i x
theorem LeafAt.up {H H' : Hp} {N : Net} {e : Nat → Nat} {y : V} {a : Str} {j : Nat} {rd : List Nat} {r : Addr} (h : LeafAt H N e y a j rd r) (s : Same H H') : LeafAt H' N e y a j rd r := by
  obtain ⟨q, e1, e2, e3, e4⟩ := h
  exact ⟨q, e1, s _ _ e2, s _ _ e3, e4⟩
theorem least_of {p : Nat → Bool} : ∀ n, p n = true → ∃ i, i ≤ n ∧ p i = true ∧ ∀ j, j < i → p j = false := by
  intro n
  induction n using Nat.strongRecOn with
  | ind n ih =>
    intro h
    by_cases q : ∃ j, j < n ∧ p j = true
    · obtain ⟨j, hj, e⟩ := q
      obtain ⟨i, h1, h2, h3⟩ := ih j hj e
      exact ⟨i, by omega, h2, h3⟩
    · refine ⟨n, Nat.le_refl _, h, fun j hj => ?_⟩
      cases e : p j with
      | false => rfl
      | true => exact absurd ⟨j, hj, e⟩ q
theorem LeafAt.inj {H : Hp} {N : Net} {e : Nat → Nat} {y : V} {a a' : Str} {j j' : Nat} {rd rd' : List Nat} {r r' : Addr} (h : LeafAt H N e y a j rd r) (h' : LeafAt H N e y a' j' rd' r') : a = a' := by
  obtain ⟨q, e1, e2, _⟩ := h
  obtain ⟨q', e1', e2', _⟩ := h'
  rw [e1] at e1'
  cases e1'
  rw [e2] at e2'
  injection e2' with e2'
  injection e2' with e2'
  injection e2' with e2' _
  injection e2'
def spBetween : Sp := fun vs H Q _ => ∃ v u N c, vs = [v, u] ∧ DT H v (encN N) ∧ DT H u (encC c) ∧ Good N ∧ ChOk N c ∧ ∀ H' p, Same H H' → H p = none → DistD H' p (names N) (Btw N (elder N c)) → Q (.ref p) H'
theorem c__law_between (T : Top mg) (D : Def K mg "_law_between" "_law_between" s__law_between) (C__law_ways : Cal P w K mg base 2 "_law_ways" spWays) (C__law_joins : Cal P w K mg base 1 "_law_joins" (spJoins false)) (C__law_road : Cal P w K mg base 1 "_law_road" spRoad) : Cal P w K mg base 3 "_law_between" spBetween := by
  have C__law_joins := C__law_joins.mono (show 1 ≤ 2 by decide)
  have C__law_road := C__law_road.mono (show 1 ≤ 2 by decide)
  refine D.cal sc__law_between (fun _ _ _ _ _ _ us hl => match us, hl with | [_, _], _ => rfl) (fun vs H Q E h => ?_) fun f cdv A outer s H vs Q E hr hsp => ?_
  · obtain ⟨_, _, _, _, rfl, _⟩ := h; rfl
  have hu := hu_of hr
  refine ⟨_, (pss_cons (ps_set (i := 2) sc__law_between.nd rfl (Or.inl rfl) (pe_f C__law_ways hr rfl (pa_cons (pv 0) pa_nil)))
    (pss_cons (ps_set (i := 3) sc__law_between.nd rfl (Or.inr rfl) pe_dnewK)
    (pss_cons (ps_for PassesOwn.never rfl (pi_range2 rfl T.range (pa_cons pe_int (pa_cons (pe_callB lenq rfl T.len PySem.boot_len (pa_cons (pv 0) pa_nil)) pa_nil))) (pg_name (i := 4) sc__law_between.nd rfl (Or.inl rfl))
    (pss_one (ps_dput hu (pv 3) (pv 4) (pe_ix ixl (pe_ix ixl (pv 2) (pv 4) (fun _ _ => rfl)) pe_int (fun _ _ => rfl)) rfl)))
    (pss_cons (ps_for PassesOwn.never rfl (pi_zipLT rfl T.zip (pa_cons (pe_f C__law_joins hr rfl (pa_cons (pv 0) pa_nil)) (pa_cons (pv 1) pa_nil))) (pgt (n := 2) rfl (pgs_cons (pg_name (i := 5) sc__law_between.nd rfl (Or.inl rfl)) (pgs_cons (pg_name (i := 6) sc__law_between.nd rfl (Or.inl rfl)) pgs_nil)))
    (pss_one (ps_dput hu (pv 3) (pv 5) (pe_ix ixl (pe_ix ixl (pv 2) (pv 5) (fun _ _ => rfl)) (pv 6) (fun _ _ => rfl)) rfl)))
    (pss_cons (ps_setLc (i := 7) (own := [("_law_at", 4), ("_law_row", 14)]) rfl sc__law_between.nd rfl rfl (sw_true rfl rfl rfl (by decide +kernel)) (pi_enumT rfl T.enumerate (pa_cons (pv 0) pa_nil)) (blkOk_by (own := [("_law_at", 4), ("_law_row", 14)]) (N := n__law_between) (sc := defScope s__law_between) (by decide +kernel)) (fun _ _ _ _ _ => (pgt (n := 2) rfl (pgs_cons (pg_name (i := 4) sc__law_between.nd rfl (Or.inl rfl)) (pgs_cons (pg_name (i := 14) sc__law_between.nd rfl (Or.inl rfl)) pgs_nil)))) (fun _ _ _ _ _ => (pts_one (pt_cmpR op_eq (pe_ix ixt (pv 14) pe_int (fun _ _ => rfl)) pe_str (nomark _)))) (fun _ _ _ _ _ => (pe_tup (pa_cons (pe_ix ixt (pv 14) pe_int (fun _ _ => rfl)) (pa_cons (pe_f C__law_road hr rfl (pa_cons (pv 3) (pa_cons (pv 4) pa_nil))) pa_nil)))))
    (pss_cons (ps_set (i := 8) sc__law_between.nd rfl (Or.inl rfl) pe_dnewT)
    (pss_cons (ps_for PassesOwn.never rfl (pi_listK K (pv 7)) (pgt (n := 2) rfl (pgs_cons (pg_name (i := 9) sc__law_between.nd rfl (Or.inl rfl)) (pgs_cons (pg_name (i := 10) sc__law_between.nd rfl (Or.inl rfl)) pgs_nil)))
    (pss_one (ps_for PassesOwn.never rfl (pi_listK K (pv 7)) (pgt (n := 2) rfl (pgs_cons (pg_name (i := 11) sc__law_between.nd rfl (Or.inl rfl)) (pgs_cons (pg_name (i := 12) sc__law_between.nd rfl (Or.inr rfl)) pgs_nil)))
    (pss_one (ps_if (pt_cmpR op_lt_str (pv 9) (pv 11) (nomark _)) (pss_cons (ps_set (i := 13) sc__law_between.nd rfl (Or.inl rfl) (pe_ix ixl (pe_lc (own := [("_law_at", 4)]) (g := gName 4) rfl sc__law_between.nd (pi_listK K (pv 10)) (blkOk_by (own := [("_law_at", 4)]) (N := n__law_between) (sc := defScope s__law_between) (by decide +kernel)) (fun _ _ _ _ _ => (pg_name (i := 4) sc__law_between.nd rfl (Or.inl rfl))) (fun _ _ _ _ _ => (pts_one (pt_cmpR ins (pv 4) (pv 12) (by rfl)))) (fun _ _ _ _ _ => (pv 4))) pe_int (fun _ _ => rfl)))
    (pss_one (ps_dput hu (pv 8) (pe_tup (pa_cons (pv 9) (pa_cons (pv 11) pa_nil))) (pe_op op_add (pe_ml PySem.F.slot_list_index PySem.F.type_list_index idx (pv 10) (pa_cons (pv 13) pa_nil)) (pe_ml PySem.F.slot_list_index PySem.F.type_list_index idx (pv 12) (pa_cons (pv 13) pa_nil))) rfl))) pss_nil)))))
    (pss_one (ps_ret (pv 8)))))))))), ?_⟩
  obtain ⟨v, u, N, c, rfl, hd, hc, G, C, q⟩ := hsp
  obtain ⟨a, xs, rfl, ha, hlen, hrow⟩ := net_at hd
  obtain ⟨cu, rfl, hcu⟩ := c_at hc
  have h1 := G.pos
  have h49 := G.len
  have El := elder_ok G.toLoose C
  refine ⟨_, rfl, _, N, rfl, hd, by omega, G.lt, fun i => Nat.le_trans (G.kids_le i) (by decide), fun H1 wl ls S1 wl0 hwl_1 hll hw => ?_⟩
  refine fun ed hed => ?_
  have S2 := same_upd (o := .dK []) hed
  have d2 : DictN (upd H1 ed (.dK [])) ed N.length (fun k => if 0 < k ∧ k < 1 then some ((ways N k).getD 0 0) else none) := ⟨[], upd_same, List.nodup_nil, by simp, fun i => by
    show none = Option.map natV (if 0 < i ∧ i < 1 then _ else none)
    rw [if_neg (by omega)]
    rfl⟩
  have ed0 : H ed = none := by
    cases e : H ed with
    | none => rfl
    | some o => rw [S1 _ _ e] at hed; cases hed
  generalize upd H1 ed (.dK []) = H2 at S2 d2 ⊢
  have S02 := Same.trans' S1 S2
  -- all old things but the elders' dict
  refine ⟨_, rfl, a, xs, rfl, .inr (S02 _ _ ha), 1, _, rfl, by omega, ?_⟩
  refine for_gen (n := ((xs.length : Int) - 1).toNat) (fun i σ H3 => (∃ s4 s5 s6 s7 s8 s9 s10 s11 s12 s13 s14, σ = [some (.ref a), some (.ref cu), some (.ref wl), some (.ref ed), s4, s5, s6, s7, s8, s9, s10, s11, s12, s13, s14]) ∧ Same H1 H3 ∧ DictN H3 ed N.length (fun k => if 0 < k ∧ k < 1 + i then some ((ways N k).getD 0 0) else none))
    ⟨⟨_, _, _, _, _, _, _, _, _, _, _, rfl⟩, S2, d2⟩ (fun i σ H3 hi _ => hi) (fun σ H3 _ => Nat.le_refl _) (fun i σ H3 x H4 hi ⟨⟨s4, s5, s6, s7, s8, s9, s10, s11, s12, s13, s14, es⟩, S3, d3⟩ hy => ?_) fun σ H3 ⟨⟨s4, s5, s6, s7, s8, s9, s10, s11, s12, s13, s14, es⟩, S3, d3⟩ => ?_
  · subst es
    obtain ⟨rfl, ex⟩ := hy
    have ex : x = natV (i + 1) := by
      rw [ex]
      unfold natV
      congr 1
      omega
    subst ex
    have hin : i + 1 < N.length := by omega
    obtain ⟨l, el⟩ : ∃ l, ls[i + 1]? = some l := ⟨_, List.getElem?_eq_getElem (by omega)⟩
    have hl := S3 _ _ (hw _ _ el)
    have hat : (ls.map V.ref)[i + 1]? = some (.ref l) := by rw [List.getElem?_map, el]; rfl
    have hwl : 0 < (ways N (i + 1)).length := by rw [G.led _ hin]; have := due_pos (N := N) (show 0 < i + 1 by omega); omega
    have hw0 : ((waysOf (edges N) (i + 1)).map natV)[0]? = some (natV ((ways N (i + 1)).getD 0 0)) := by
      rw [List.getElem?_map, List.getD_eq_getElem?_getD]
      show Option.map natV (ways N (i + 1))[0]? = _
      rw [List.getElem?_eq_getElem hwl]
      rfl
    obtain ⟨kvs, f1, f2, f3, f4⟩ := d3
    have hkl := keysN_len f2 f3
    refine ⟨_, rfl, _, rfl, wl, _, ((i + 1 : Nat) : Int), _, rfl, rfl, S3 _ _ hwl_1, atI_nat hat, l, _, 0, _, rfl, rfl, hl, atI_nat (j := 0) hw0, _, rfl, _, rfl, ed, _, rfl, DPut.k (k := nk (i + 1)) f1 (smallT (by omega)), ⟨_, _, _, _, _, _, _, _, _, _, _, rfl⟩, fun b o e => ?_, ?_⟩
    · rw [upd_ne (ne_of_none e hed)]
      exact S3 _ _ e
    · have z := dictN_put (H := H4) (p := ed) (m := (ways N (i + 1)).getD 0 0) f2 f3 f4 hin
      have eF : (fun j => if j = i + 1 then some ((ways N (i + 1)).getD 0 0) else if 0 < j ∧ j < 1 + i then some ((ways N j).getD 0 0) else none) = fun k => if 0 < k ∧ k < 1 + (i + 1) then some ((ways N k).getD 0 0) else none := by
        funext j
        by_cases e : j = i + 1
        · subst e
          rw [if_pos rfl, if_pos (by omega)]
        · rw [if_neg e]
          by_cases q : 0 < j ∧ j < 1 + i
          · rw [if_pos q, if_pos (by omega)]
          · rw [if_neg q, if_neg (by omega)]
      rw [eF] at z
      exact z
  · subst es
    rw [show 1 + ((xs.length : Int) - 1).toNat = N.length by omega] at d3
    refine ⟨_, rfl, .ref a, N, rfl, hd.up (Same.tk (Same.trans' S1 S3)), by omega, fun H4 jl S4 jl0 hjl => ?_⟩
    have hjl : H4 jl = some (.lst ((joins N).map natV)) := hjl
    have S14 := Same.trans' S3 S4
    have d4 := d3.frame (H' := H4) fun o e => S4 _ _ e
    have jnd := joins_nodup N
    have clen := C.len
    refine ⟨_, rfl, jl, cu, _, _, rfl, sl_at hjl, sq_at (S14 _ _ (S1 _ _ hcu)), ?_⟩
    refine for_gen (n := (joins N).length) (fun i σ H5 => (∃ s4 s5 s6 s7 s8 s9 s10 s11 s12 s13 s14, σ = [some (.ref a), some (.ref cu), some (.ref wl), some (.ref ed), s4, s5, s6, s7, s8, s9, s10, s11, s12, s13, s14]) ∧ Same H1 H5 ∧ H5 jl = some (.lst ((joins N).map natV)) ∧ DictN H5 ed N.length (fun k => if 0 < k ∧ k < N.length then some (if k ∈ (joins N).take i then elder N c k else (ways N k).getD 0 0) else none))
      ⟨⟨_, _, _, _, _, _, _, _, _, _, _, rfl⟩, S14, hjl, by simpa using d4⟩ (fun i σ H5 hi ⟨_, S5, hj5, _⟩ => ⟨_, _, _, _, sl_at hj5, sq_at (S5 _ _ (S1 _ _ hcu)), nats_at hi, nats_at (show i < c.length by omega)⟩) (fun σ H5 ⟨_, S5, hj5, _⟩ => ⟨_, _, sl_at hj5, sq_at (S5 _ _ (S1 _ _ hcu)), by rw [nats_len], by rw [nats_len]; exact clen⟩) (fun i σ H5 x H6 hi ⟨⟨s4, s5, s6, s7, s8, s9, s10, s11, s12, s13, s14, es⟩, S5, hj5, d5⟩ hy => ?_) fun σ H5 ⟨⟨s4, s5, s6, s7, s8, s9, s10, s11, s12, s13, s14, es⟩, S5, hj5, d5⟩ => ?_
    · subst es
      obtain ⟨t, y1, y2, rfl, ht, rfl, hy1, hy2⟩ := hy
      have hy1 := hy1 _ (sl_at hj5)
      have hy2 := hy2 _ (sq_at (S5 _ _ (S1 _ _ hcu)))
      obtain ⟨jn, ejn⟩ : ∃ jn, (joins N)[i]? = some jn := ⟨_, List.getElem?_eq_getElem hi⟩
      obtain ⟨cb, ecb⟩ : ∃ cb, c[i]? = some cb := ⟨_, List.getElem?_eq_getElem (by omega)⟩
      rw [List.getElem?_map, ejn] at hy1
      rw [List.getElem?_map, ecb] at hy2
      cases hy1
      cases hy2
      have hjm : jn ∈ joins N := List.mem_of_getElem? ejn
      have hidx : (joins N).idxOf jn = i := by
        have h1 : (joins N).idxOf jn < (joins N).length := List.idxOf_lt_length_iff.mpr hjm
        have h2 : (joins N)[(joins N).idxOf jn]? = some jn := by rw [List.getElem?_eq_getElem h1, List.getElem_idxOf h1]
        exact (List.getElem?_inj h1 jnd).mp (h2.trans ejn.symm)
      have held : elder N c jn = (ways N jn).getD cb 0 := by
        unfold elder
        rw [if_pos hjm, hidx, List.getD_eq_getElem?_getD (l := c), ecb]
        rfl
      have hcb := C.bit _ (List.mem_of_getElem? ecb)
      have hjn := joins_lt _ hjm
      have hj0 : 0 < jn := by
        obtain ⟨j, ej⟩ := mem_joins.mp hjm
        rcases Nat.eq_zero_or_pos jn with z | z
        · subst z
          exact absurd ej (G.root j)
        · exact z
      have hwl2 : (ways N jn).length = 2 := by rw [G.led _ hjn, due_join G.toLoose hjm]
      obtain ⟨l, el⟩ : ∃ l, ls[jn]? = some l := ⟨_, List.getElem?_eq_getElem (by omega)⟩
      have S6 : Same H5 (upd H5 t (.tup [natV jn, natV cb])) := same_upd ht
      have d6 := d5.frame (H' := upd H5 t (.tup [natV jn, natV cb])) fun o e => S6 _ _ e
      have S16 := Same.trans' S5 S6
      have hj6 := S6 _ _ hj5
      refine ⟨t, _, rfl, upd_same, rfl, _, _, rfl, _, _, rfl, rfl, ?_⟩
      generalize upd H5 t (.tup [natV jn, natV cb]) = H6 at S6 d6 S16 hj6 ⊢
      have hl := S16 _ _ (hw _ _ el)
      have hat : (ls.map V.ref)[jn]? = some (.ref l) := by rw [List.getElem?_map, el]; rfl
      have hw0 : ((waysOf (edges N) jn).map natV)[cb]? = some (natV ((ways N jn).getD cb 0)) := by
        rw [List.getElem?_map, List.getD_eq_getElem?_getD]
        show Option.map natV (ways N jn)[cb]? = _
        rw [List.getElem?_eq_getElem (show cb < (ways N jn).length by omega)]
        rfl
      obtain ⟨kvs, f1, f2, f3, f4⟩ := d6
      have hkl := keysN_len f2 f3
      refine ⟨_, rfl, _, rfl, wl, _, (jn : Int), _, rfl, rfl, S16 _ _ hwl_1, atI_nat hat, _, rfl, l, _, (cb : Int), _, rfl, rfl, hl, atI_nat hw0, _, rfl, _, rfl, ed, _, rfl, DPut.k (k := nk jn) f1 (smallT (by omega)), ⟨_, _, _, _, _, _, _, _, _, _, _, rfl⟩, fun b o e => ?_, ?_, ?_⟩
      · rw [upd_ne (ne_of_none e hed)]
        exact S16 _ _ e
      · rw [upd_ne (fun z => by rw [z, f1] at hj6; cases hj6)]
        exact hj6
      · have z := dictN_put (H := H6) (p := ed) (m := (ways N jn).getD cb 0) f2 f3 f4 hjn
        have eF : (fun j => if j = jn then some ((ways N jn).getD cb 0) else if 0 < j ∧ j < N.length then some (if j ∈ (joins N).take i then elder N c j else (ways N j).getD 0 0) else none) = fun k => if 0 < k ∧ k < N.length then some (if k ∈ (joins N).take (i + 1) then elder N c k else (ways N k).getD 0 0) else none := by
          funext j
          have et : (joins N).take (i + 1) = (joins N).take i ++ [jn] := by rw [List.take_add_one, ejn]; rfl
          rw [et]
          by_cases e : j = jn
          · subst e
            rw [if_pos rfl, if_pos ⟨hj0, hjn⟩, if_pos (by simp), held]
          · rw [if_neg e]
            by_cases q : 0 < j ∧ j < N.length
            · rw [if_pos q, if_pos q]
              congr 1
              have : (j ∈ (joins N).take i ++ [jn]) ↔ j ∈ (joins N).take i := by simp [e]
              by_cases r : j ∈ (joins N).take i
              · rw [if_pos r, if_pos (this.mpr r)]
              · rw [if_neg r, if_neg (fun z => r (this.mp z))]
            · rw [if_neg q, if_neg q]
        rw [eF] at z
        exact z
    · subst es
      rw [List.take_length] at d5
      have hE : EldD H5 ed N.length (elder N c) := by
        have eF : (fun k => if 0 < k ∧ k < N.length then some (if k ∈ joins N then elder N c k else (ways N k).getD 0 0) else none) = fun k => if 0 < k ∧ k < N.length then some (elder N c k) else none := by
          funext k
          by_cases q : 0 < k ∧ k < N.length
          · rw [if_pos q, if_pos q]
            congr 1
            by_cases r : k ∈ joins N
            · rw [if_pos r]
            · rw [if_neg r]
              unfold elder
              rw [if_neg r]
          · rw [if_neg q, if_neg q]
        rw [eF] at d5
        exact d5
      have S05 := Same.trans' S1 S5
      -- the leaves and their roads
      refine ⟨_, rfl, a, xs, rfl, sq_at (S05 _ _ ha), fun L hL => ?_⟩
      refine lc_gen (n := xs.length) (fun i H6 => Same H5 H6 ∧ ∃ ys, H6 L = some (.lst ys) ∧ ys.length ≤ i ∧ (∀ y ∈ ys, ∃ a j rd r, LeafAt H6 N (elder N c) y a j rd r) ∧ ∀ (j : Nat) (a : Str), j < i → N[j]? = some (Row.leaf a) → ∃ y ∈ ys, ∃ rd r, LeafAt H6 N (elder N c) y a j rd r)
        ⟨same_upd hL, [], upd_same, Nat.le_refl _, by simp, fun j a h => absurd h (Nat.not_lt_zero _)⟩ (fun i H6 hi ⟨S6, _⟩ => ⟨xs, xs[i], sq_at (S6 _ _ (S05 _ _ ha)), by simp [hi]⟩) (fun H6 ⟨S6, _⟩ => ⟨xs, sq_at (S6 _ _ (S05 _ _ ha)), Nat.le_refl _⟩) (fun i H6 x H7 hi ⟨S6, ys, hL6, hyl, hys, hcov⟩ hy => ?_) fun H6 ⟨S6, ys, hL6, hyl, hys, hcov⟩ => ?_
      · obtain ⟨t, y, rfl, ht, rfl, hx⟩ := hy
        obtain ⟨r, er, hd1⟩ := hrow i y (hx xs (sq_at (S6 _ _ (S05 _ _ ha))))
        obtain ⟨b, z, rfl, hb, hz⟩ := row_at hd1
        have S7 : Same H6 (upd H6 t (.tup [.int (i : Nat), .ref b])) := same_upd ht
        refine ⟨t, _, rfl, upd_same, rfl, _, _, rfl, _, _, rfl, rfl, rfl, ?_⟩
        generalize upd H6 t (.tup [.int (i : Nat), .ref b]) = H7 at S7 ⊢
        have S57 := Same.trans' S6 S7
        have hb7 := S57 _ _ (S05 _ _ hb)
        refine ⟨_, rfl, b, _, 0, _, rfl, rfl, hb7, atI_nat (j := 0) rfl, rfl, _, rfl, ?_⟩
        refine ite2 (fun h => ?_) fun h => ?_
        · rw [dec_tag] at h
          have e2 := tag_leaf.mp (of_decide_eq_true h)
          cases r with
          | fork ks => cases e2
          | join k => cases e2
          | leaf s =>
            rw [show z = .str s from DT.of_str hz] at hb7
            have hin : i < N.length := by omega
            refine ⟨_, rfl, b, _, 1, _, rfl, rfl, hb7, atI_nat (j := 1) rfl, _, rfl, _, rfl, ed, N, elder N c, i, rfl, hE.frame fun o e => S57 _ _ e, El, G, hin, fun H8 p rd S8 hp hrd => ?_⟩
            refine ⟨small (show 2 ≤ 10000 by decide), fun q1 hq1 => ?_⟩
            have hL8 := S8 _ _ (S7 _ _ hL6)
            have nqL : q1 ≠ L := fun z => by rw [z, hL8] at hq1; cases hq1
            refine ⟨ys, by rw [upd_ne (Ne.symm nqL)]; exact hL8, smallT (by omega), fun c1 o e => ?_, ys ++ [.ref q1], upd_same, by rw [List.length_append]; simp; omega, fun y' hy' => ?_, fun j a' hj ej => ?_⟩
            · rw [upd_ne (ne_of_none e hL), upd_ne (ne_of_none (S8 _ _ (S57 _ _ e)) hq1)]
              exact S8 _ _ (S57 _ _ e)
            all_goals (
              have lift : ∀ {y' : V} {a' : Str} {j : Nat} {rd : List Nat} {r : Addr}, LeafAt H6 N (elder N c) y' a' j rd r → LeafAt (upd (upd H8 q1 (.tup [.str s, .ref p])) L (.lst (ys ++ [.ref q1]))) N (elder N c) y' a' j rd r := by
                intro y' a' j rd r ⟨q2, e1, e2, e3, e4⟩
                have S68 := Same.trans' S7 S8
                refine ⟨q2, e1, ?_, ?_, e4⟩
                · rw [upd_ne (fun z => by rw [z, hL6] at e2; cases e2), upd_ne (ne_of_none (S68 _ _ e2) hq1)]
                  exact S68 _ _ e2
                · rw [upd_ne (fun z => by
                    subst z
                    have hE2 := e4.2 0 j
                    rw [hL6] at e3
                    have e5 : ys = rd.map natV := by injection e3 with e3; injection e3
                    obtain ⟨rd0, h0⟩ : ∃ rd0, rd[0]? = some rd0 := ⟨j, hE2.mpr (.refl j)⟩
                    have h1 : ys[0]? = some (natV rd0) := by rw [e5, List.getElem?_map, h0]; rfl
                    obtain ⟨_, _, _, _, q3, e6, _⟩ := hys _ (List.mem_of_getElem? h1)
                    cases e6), upd_ne (ne_of_none (S68 _ _ e3) hq1)]
                  exact S68 _ _ e3
              have new : LeafAt (upd (upd H8 q1 (.tup [.str s, .ref p])) L (.lst (ys ++ [.ref q1]))) N (elder N c) (.ref q1) s i rd p := by
                have npL : p ≠ L := fun z => by
                  subst z
                  rw [hL8] at hp
                  have e5 : ys = rd.map natV := by injection hp with hp; injection hp
                  have h0 : rd[0]? = some i := (hrd 0 i).mpr (.refl i)
                  have h1 : ys[0]? = some (natV i) := by rw [e5, List.getElem?_map, h0]; rfl
                  obtain ⟨_, _, _, _, q3, e6, _⟩ := hys _ (List.mem_of_getElem? h1)
                  cases e6
                exact ⟨q1, rfl, by rw [upd_ne nqL, upd_same], by rw [upd_ne npL, upd_ne (ne_of_none hp hq1)]; exact hp, er, hrd⟩)
            · rcases List.mem_append.mp hy' with h' | h'
              · obtain ⟨a', j, rd', r', l⟩ := hys y' h'
                exact ⟨a', j, rd', r', lift l⟩
              · rw [List.mem_singleton.mp h']
                exact ⟨s, i, rd, p, new⟩
            · rcases Nat.lt_or_ge j i with h' | h'
              · obtain ⟨y', hy', rd', r', l⟩ := hcov j a' h' ej
                exact ⟨y', List.mem_append_left _ hy', rd', r', lift l⟩
              · have : j = i := by omega
                subst this
                rw [er] at ej
                cases ej
                exact ⟨.ref q1, by simp, rd, p, new⟩
        · rw [dec_tag] at h
          have hnl : ∀ s, r ≠ .leaf s := fun s e => h (decide_eq_true (by rw [e]; rfl))
          refine ⟨S57, ys, S7 _ _ hL6, by omega, fun y' hy' => ?_, fun j a' hj ej => ?_⟩
          · obtain ⟨a', j, rd', r', l⟩ := hys y' hy'
            exact ⟨a', j, rd', r', l.up S7⟩
          · rcases Nat.lt_or_ge j i with h' | h'
            · obtain ⟨y', hy', rd', r', l⟩ := hcov j a' h' ej
              exact ⟨y', hy', rd', r', l.up S7⟩
            · have : j = i := by omega
              subst this
              rw [er] at ej
              cases ej
              exact absurd rfl (hnl a')
      · rw [hlen] at hcov
        refine fun fd hfd => ?_
        have S7 := same_upd (o := .dT []) hfd
        have hfd7 : upd H6 fd (.dT []) fd = some (.dT []) := upd_same
        have S06 := Same.trans' S05 S6
        have fd0 : H fd = none := by
          cases e : H fd with
          | none => rfl
          | some o => rw [S06 _ _ e] at hfd; cases hfd
        generalize upd H6 fd (.dT []) = H7 at S7 hfd7 ⊢
        -- what stands besides the answer
        have keep : ∀ {H8 : Hp} {y : V} {a' : Str} {j : Nat} {rd : List Nat} {r : Addr}, Same H6 H8 → LeafAt H6 N (elder N c) y a' j rd r → LeafAt H8 N (elder N c) y a' j rd r := fun s l => l.up s
        let Val : List (List Key × V) → Prop := fun kvs => (kvs.map (·.1)).Nodup ∧ ∀ k v, (k, v) ∈ kvs → ∃ a b m, k = [.inr a, .inr b] ∧ a ∈ names N ∧ b ∈ names N ∧ sLt a b ∧ v = natV m ∧ Btw N (elder N c) a b m
        let Has : List (List Key × V) → V → V → Prop := fun kvs y1 y2 => ∀ a1 j1 rd1 r1 a2 j2 rd2 r2, LeafAt H6 N (elder N c) y1 a1 j1 rd1 r1 → LeafAt H6 N (elder N c) y2 a2 j2 rd2 r2 → sLt a1 a2 → [Sum.inr a1, Sum.inr a2] ∈ kvs.map (·.1)
        have yl49 : ys.length ≤ 49 := by omega
        refine ⟨_, rfl, L, rfl, ⟨_, sl_at (S7 _ _ hL6)⟩, ?_⟩
        refine for_gen (n := ys.length) (fun i σ H8 => (∃ s4 s5 s6 s9 s10 s11 s12 s13 s14, σ = [some (.ref a), some (.ref cu), some (.ref wl), some (.ref ed), s4, s5, s6, some (.ref L), some (.ref fd), s9, s10, s11, s12, s13, s14]) ∧ Same H6 H8 ∧ ∃ kvs, H8 fd = some (.dT kvs) ∧ Val kvs ∧ kvs.length ≤ i * 49 ∧ ∀ i' y1, i' < i → ys[i']? = some y1 → ∀ y2 ∈ ys, Has kvs y1 y2)
          ⟨⟨_, _, _, _, _, _, _, _, _, rfl⟩, S7, [], hfd7, ⟨List.nodup_nil, by simp⟩, Nat.zero_le _, fun i' y1 h => absurd h (Nat.not_lt_zero _)⟩ (fun i σ H8 hi ⟨_, S8, _⟩ => go_lst (S8 _ _ hL6) hi) (fun σ H8 ⟨_, S8, _⟩ => st_lst (S8 _ _ hL6) (Nat.le_refl _)) (fun i σ H8 y1 H9 hi ⟨⟨s4, s5, s6, s9, s10, s11, s12, s13, s14, es⟩, S8, kvs, hk8, hV, hkl, hH⟩ hy => ?_) fun σ H8 ⟨⟨s4, s5, s6, s9, s10, s11, s12, s13, s14, es⟩, S8, kvs, hk8, hV, hkl, hH⟩ => ?_
        · subst es
          obtain ⟨rfl, hy⟩ := hy
          have hy1 := hy _ (sl_at (S8 _ _ hL6))
          obtain ⟨a1, j1, rd1, r1, la⟩ := hys y1 (List.mem_of_getElem? hy1)
          obtain ⟨q1, rfl, hq1, hr1, hj1, hrd1⟩ := id la
          refine ⟨q1, _, rfl, S8 _ _ hq1, rfl, _, _, rfl, _, _, rfl, rfl, ?_⟩
          refine ⟨_, rfl, L, rfl, ⟨_, sl_at (S8 _ _ hL6)⟩, ?_⟩
          refine for_gen (n := ys.length) (fun k σ H10 => (∃ s4 s5 s6 s11 s12 s13 s14, σ = [some (.ref a), some (.ref cu), some (.ref wl), some (.ref ed), s4, s5, s6, some (.ref L), some (.ref fd), some (.str a1), some (.ref r1), s11, s12, s13, s14]) ∧ Same H6 H10 ∧ ∃ kvs, H10 fd = some (.dT kvs) ∧ Val kvs ∧ kvs.length ≤ i * 49 + k ∧ (∀ i' y1, i' < i → ys[i']? = some y1 → ∀ y2 ∈ ys, Has kvs y1 y2) ∧ ∀ k' y2, k' < k → ys[k']? = some y2 → Has kvs (.ref q1) y2)
            ⟨⟨_, _, _, _, _, _, _, rfl⟩, S8, kvs, hk8, hV, hkl, hH, fun k' y2 h => absurd h (Nat.not_lt_zero _)⟩ (fun k σ H10 hk ⟨_, S10, _⟩ => go_lst (S10 _ _ hL6) hk) (fun σ H10 ⟨_, S10, _⟩ => st_lst (S10 _ _ hL6) (Nat.le_refl _)) (fun k σ H10 y2 H11 hk ⟨⟨s4, s5, s6, s11, s12, s13, s14, es⟩, S10, kvs, hk10, hV, hkl, hH, hHk⟩ hy2 => ?_) fun σ H10 ⟨⟨s4, s5, s6, s11, s12, s13, s14, es⟩, S10, kvs, hk10, hV, hkl, hH, hHk⟩ => ?_
          · subst es
            obtain ⟨rfl, hy2⟩ := hy2
            have hy2 := hy2 _ (sl_at (S10 _ _ hL6))
            obtain ⟨a2, j2, rd2, r2, la2⟩ := hys y2 (List.mem_of_getElem? hy2)
            obtain ⟨q2, rfl, hq2, hr2, hj2, hrd2⟩ := id la2
            refine ⟨q2, _, rfl, S10 _ _ hq2, rfl, _, _, rfl, _, _, rfl, rfl, ?_⟩
            refine ⟨_, rfl, _, rfl, a1, a2, rfl, rfl, _, rfl, ite2 (fun hlt => ?_) fun hlt => ?_⟩
            · have hlt : sLt a1 a2 := of_decide_eq_true hlt
              have hj1n := (List.getElem?_eq_some_iff.mp hj1).1
              have hj2n := (List.getElem?_eq_some_iff.mp hj2).1
              obtain ⟨t1, ut1⟩ := Up.top El G j1 hj1n
              obtain ⟨t2, ut2⟩ := Up.top El G j2 hj2n
              have et1 := (hrd1 t1 0).mpr ut1
              have et2 := (hrd2 t2 0).mpr ut2
              have eg : ∀ {l : List Nat} {i x : Nat}, l[i]? = some x → l.getD i 0 = x := fun {l i x} e => by rw [List.getD_eq_getElem?_getD, e]; rfl
              obtain ⟨i0, hi0, hp0, hmin⟩ := least_of (p := fun i => decide (rd1.getD i 0 ∈ rd2)) t1 (decide_eq_true (by rw [eg et1]; exact List.mem_of_getElem? et2))
              have hi0n : i0 < rd1.length := by have := (List.getElem?_eq_some_iff.mp et1).1; omega
              obtain ⟨x, ex⟩ : ∃ x, rd1[i0]? = some x := ⟨_, List.getElem?_eq_getElem hi0n⟩
              have hxm : x ∈ rd2 := by
                have := of_decide_eq_true hp0
                rw [eg ex] at this
                exact this
              obtain ⟨k0, ek0⟩ := List.getElem?_of_mem hxm
              have u1 := (hrd1 i0 x).mp ex
              have u2 := (hrd2 k0 x).mp ek0
              have btw : Btw N (elder N c) a1 a2 (i0 + k0) := ⟨j1, j2, i0, k0, x, hj1, hj2, u1, u2, rfl, fun i' k' x' v1 v2 => by
                refine Nat.le_of_not_lt fun z => ?_
                have h1 := hmin i' z
                have e1 := (hrd1 i' x').mpr v1
                have e2 := (hrd2 k' x').mpr v2
                have h1 := of_decide_eq_false h1
                rw [eg e1] at h1
                exact h1 (List.mem_of_getElem? e2)⟩
              have rlen : rd1.length ≤ 49 := by
                refine Nat.le_of_not_lt fun z => ?_
                have e49 : rd1[49]? = some rd1[49] := List.getElem?_eq_getElem z
                have := (((hrd1 49 _).mp e49).dn El G hj1n).2
                omega
              refine ⟨_, rfl, r1, rfl, ⟨_, sl_at (S10 _ _ hr1)⟩, fun D12 hD12 => ?_⟩
              refine lc_map (n := rd1.length) (fun i => decide (rd1.getD i 0 ∈ rd2)) (fun i => natV (rd1.getD i 0)) hD12 (by omega) (fun m H12 hm hS => go_lst (hS _ _ (S10 _ _ hr1)) (by rw [nats_len]; exact hm)) (fun H12 hS => st_lst (hS _ _ (S10 _ _ hr1)) (by rw [nats_len]; exact Nat.le_refl _)) (fun m H12 z H13 Kt Kf hm hS hz hKt hKf => ?_) fun H12 hS12 hl12 => ?_
              · obtain ⟨rfl, hz⟩ := hz
                have hz := hz _ (sl_at (hS _ _ (S10 _ _ hr1)))
                rw [nats_at hm] at hz
                cases hz
                have egm : rd1.getD m 0 = rd1[m] := eg (List.getElem?_eq_getElem hm)
                rw [egm] at hKt hKf
                refine ⟨rfl, _, rfl, _, rfl, r2, _, rfl, .inl (hS _ _ (S10 _ _ hr2)), rfl, flat_nats _, _, rfl, ?_⟩
                have ev : (if false = true then !inV (natV rd1[m]) (rd2.map natV) else inV (natV rd1[m]) (rd2.map natV)) = decide (rd1[m] ∈ rd2) := inV_nats _ _
                rw [ev]
                refine ite2 (fun h => ⟨_, rfl, hKt h _ (Same.refl' _)⟩) fun h => hKf (by simpa using h) _ (Same.refl' _)
              · have hfst := kept_first (f := fun i => natV (rd1.getD i 0)) hp0 hmin rd1.length hi0n
                rw [eg ex] at hfst
                have S612 := Same.trans' S10 hS12
                have hr1' := S612 _ _ hr1
                have hr2' := S612 _ _ hr2
                have none1 : ∀ (m : Nat) (z' : V), m < i0 → (rd1.map natV)[m]? = some z' → eqV z' (natV x) = false := fun m z' hm e => by
                  rw [List.getElem?_map] at e
                  obtain ⟨y, ey, rfl⟩ := Option.map_eq_some_iff.mp e
                  rw [eq_nats]
                  refine decide_eq_false fun z => ?_
                  subst z
                  have := Up.same El G hj1n ((hrd1 m _).mp ey) u1
                  omega
                have none2 : ∀ (m : Nat) (z' : V), m < k0 → (rd2.map natV)[m]? = some z' → eqV z' (natV x) = false := fun m z' hm e => by
                  rw [List.getElem?_map] at e
                  obtain ⟨y, ey, rfl⟩ := Option.map_eq_some_iff.mp e
                  rw [eq_nats]
                  refine decide_eq_false fun z => ?_
                  subst z
                  have := Up.same El G hj2n ((hrd2 m _).mp ey) u2
                  omega
                have at1 : (rd1.map natV)[i0]? = some (natV x) := by rw [List.getElem?_map, ex]; rfl
                have at2 : (rd2.map natV)[k0]? = some (natV x) := by rw [List.getElem?_map, ek0]; rfl
                have eqx : eqV (natV x) (natV x) = true := by rw [eq_nats]; exact decide_eq_true rfl
                have hk12 := hS12 _ _ hk10
                refine ⟨D12, _, 0, _, rfl, rfl, hl12, atI_nat (j := 0) hfst, ?_⟩
                refine ⟨_, rfl, ⟨r1, _, rfl, hr1'⟩, _, rfl, r1, _, natV x, i0, natV x, rfl, rfl, hr1', rfl, flat_nats _, at1, eqx, none1, _, rfl, ⟨r2, _, rfl, hr2'⟩, _, rfl, r2, _, natV x, k0, natV x, rfl, rfl, hr2', rfl, flat_nats _, at2, eqx, none2, (i0 : Int), (k0 : Int), rfl, rfl, ?_⟩
                refine ⟨_, rfl, _, rfl, _, rfl, small (show 2 ≤ 10000 by decide), fun rr hrr => ?_⟩
                have nrf : rr ≠ fd := fun z => by rw [z, hk12] at hrr; cases hrr
                have hk13 : upd H12 rr (.tup [.str a1, .str a2]) fd = some (.dT kvs) := by rw [upd_ne (Ne.symm nrf)]; exact hk12
                have hkl2 : kvs.length ≤ 49 * 49 + 49 := by
                  have : i * 49 ≤ 49 * 49 := Nat.mul_le_mul_right 49 (by omega)
                  omega
                refine ⟨fd, _, rfl, DPut.t (k := [.inr a1, .inr a2]) hk13 upd_same (smallT (by omega)), ⟨_, _, _, _, _, _, _, rfl⟩, fun b o e => ?_, _, upd_same, ⟨nd_put _ _ hV.1, fun k' v' hm => ?_⟩, ?_, fun i' y1 hi' e' y2 hy2' => ?_, fun k' y2 hk' e' => ?_⟩
                · rw [upd_ne (ne_of_none e hfd), upd_ne (ne_of_none (S612 _ _ e) hrr)]
                  exact S612 _ _ e
                · rcases mem_putK hm with ⟨e1, e2⟩ | h
                  · exact ⟨a1, a2, i0 + k0, e1, mem_names.mpr ⟨j1, hj1⟩, mem_names.mpr ⟨j2, hj2⟩, hlt, by rw [e2]; unfold natV; congr 1, btw⟩
                  · exact hV.2 k' v' h
                · exact Nat.le_trans (length_putK kvs [Sum.inr a1, Sum.inr a2] _) (by omega)
                · intro b1 b2 b3 b4 b5 b6 b7 b8 l1 l2 hl
                  exact mem_put.mpr (.inr (hH i' y1 hi' e' y2 hy2' _ _ _ _ _ _ _ _ l1 l2 hl))
                · intro b1 b2 b3 b4 b5 b6 b7 b8 l1 l2 hl
                  rcases Nat.lt_or_ge k' k with h' | h'
                  · exact mem_put.mpr (.inr (hHk k' y2 h' e' _ _ _ _ _ _ _ _ l1 l2 hl))
                  · have : k' = k := by omega
                    subst this
                    rw [hy2] at e'
                    cases e'
                    rw [← la.inj l1, ← la2.inj l2]
                    exact mem_put.mpr (.inl rfl)
            · have hlt : ¬ sLt a1 a2 := fun z => hlt (decide_eq_true z)
              refine ⟨⟨_, _, _, _, _, _, _, rfl⟩, S10, kvs, hk10, hV, by omega, hH, fun k' y2 hk' e' => ?_⟩
              intro b1 b2 b3 b4 b5 b6 b7 b8 l1 l2 hl
              rcases Nat.lt_or_ge k' k with h' | h'
              · exact hHk k' y2 h' e' _ _ _ _ _ _ _ _ l1 l2 hl
              · have : k' = k := by omega
                subst this
                rw [hy2] at e'
                cases e'
                rw [← la.inj l1, ← la2.inj l2] at hl
                exact absurd hl hlt
          · subst es
            refine ⟨⟨_, _, _, _, _, _, _, _, _, rfl⟩, S10, kvs, hk10, hV, by rw [Nat.add_mul]; omega, fun i' y1 hi' e' y2 hy2 => ?_⟩
            rcases Nat.lt_or_ge i' i with h' | h'
            · exact hH i' y1 h' e' y2 hy2
            · have : i' = i := by omega
              subst this
              rw [hy1] at e'
              cases e'
              obtain ⟨k', hk'⟩ := List.getElem?_of_mem hy2
              exact hHk k' y2 (List.getElem?_eq_some_iff.mp hk').1 hk'
        · subst es
          refine ⟨_, rfl, q _ fd (Same.trans' S06 S8) fd0 ⟨kvs, hk8, hV.1, hV.2, fun a1 a2 h1 h2 hlt => ?_⟩⟩
          obtain ⟨j1, e1⟩ := mem_names.mp h1
          obtain ⟨j2, e2⟩ := mem_names.mp h2
          obtain ⟨y1, hy1, rd1, r1, l1⟩ := hcov j1 a1 (List.getElem?_eq_some_iff.mp e1).1 e1
          obtain ⟨y2, hy2, rd2, r2, l2⟩ := hcov j2 a2 (List.getElem?_eq_some_iff.mp e2).1 e2
          obtain ⟨i', hi'⟩ := List.getElem?_of_mem hy1
          have hm := hH i' y1 (List.getElem?_eq_some_iff.mp hi').1 hi' y2 hy2 a1 j1 rd1 r1 a2 j2 rd2 r2 l1 l2 hlt
          obtain ⟨⟨k, u⟩, hku, ek⟩ := List.mem_map.mp hm
          have ek : k = [.inr a1, .inr a2] := ek
          obtain ⟨_, _, m, _, _, _, _, eu, _⟩ := hV.2 k u hku
          exact ⟨m, by rw [← ek, ← eu]; exact hku⟩
end
end JT
/-! Mat9: the tree that a net shows by a choice. -/
namespace JT
open PySem PySem.Spec PyProof.Rows L2 PySem.W
def isNil : Tree → Bool
  | .node [] => true
  | _ => false
/-- the parts that the row at keeps -/
def keeps (N : Net) (e : Nat → Nat) (R : Nat → Tree) (at_ : Nat) : List Nat := (kidsAt N at_).filter fun k => decide (e k = at_) && !isNil (R k)
structure Raw (N : Net) (e : Nat → Nat) (R : Nat → Tree) : Prop where
  leaf : ∀ (i : Nat) (s : Str), N[i]? = some (Row.leaf s) → R i = .leaf s
  inner : ∀ i : Nat, i < N.length → (∀ s : Str, N[i]? ≠ some (Row.leaf s)) → R i = .node ((keeps N e R i).map R)
/-- a stands d deep in the tree -/
inductive In : Tree → Nat → Str → Prop
  | leaf (s : Str) : In (.leaf s) 0 s
  | node {ts : List Tree} {t : Tree} {d : Nat} {a : Str} : t ∈ ts → In t d a → In (.node ts) (d + 1) a
theorem Up.last {e : Nat → Nat} {j i x : Nat} (h : Up e j (i + 1) x) : ∃ y, Up e j i y ∧ y ≠ 0 ∧ e y = x := by
  induction i generalizing j with
  | zero =>
    cases h with
    | step h0 u => cases u; exact ⟨j, .refl j, h0, rfl⟩
  | succ i ih =>
    cases h with
    | step h0 u =>
      obtain ⟨y, hy, n0, ey⟩ := ih u
      exact ⟨y, .step h0 hy, n0, ey⟩
section
variable {N : Net} {e : Nat → Nat} {R : Nat → Tree}
theorem Raw.in (W : Raw N e R) (E : Elder N e) (G : Good N) {j : Nat} {a : Str} (hj : N[j]? = some (Row.leaf a)) : ∀ i x, Up e j i x → In (R x) i a ∧ isNil (R x) = false := by
  have hjn := (List.getElem?_eq_some_iff.mp hj).1
  intro i
  induction i with
  | zero =>
    intro x u
    cases u
    rw [W.leaf j a hj]
    exact ⟨.leaf a, rfl⟩
  | succ i ih =>
    intro x u
    obtain ⟨y, uy, n0, ey⟩ := u.last
    obtain ⟨h1, h2⟩ := ih y uy
    have hyn : y < N.length := by have := (uy.dn E G hjn).2; omega
    have hk := E y (by omega) hyn
    rw [ey] at hk
    have hxn := kidsAt_lt hk
    have hnl : ∀ s : Str, N[x]? ≠ some (Row.leaf s) := fun s z => by
      rw [kidsAt_some z] at hk
      cases hk
    have hm : y ∈ keeps N e R x := List.mem_filter.mpr ⟨hk, by rw [decide_eq_true ey, h2]; rfl⟩
    rw [W.inner x hxn hnl]
    refine ⟨.node (List.mem_map_of_mem hm) h1, ?_⟩
    cases q : keeps N e R x with
    | nil => rw [q] at hm; cases hm
    | cons k ks => rfl
theorem not_nil_full {t : Tree} (h : Full t) : isNil t = false := by
  cases t with
  | leaf s => rfl
  | node ts =>
    cases ts with
    | nil => exact absurd rfl h.1
    | cons t ts => rfl
theorem Raw.full (W : Raw N e R) (G : Good N) : ∀ d x, x < N.length → N.length - x ≤ d → (isNil (R x) = false → Full (R x)) ∧ hT (R x) + x < N.length := by
  intro d
  induction d with
  | zero => intro x hx h; omega
  | succ d ih =>
    intro x hx h
    by_cases hl : ∃ s, N[x]? = some (Row.leaf s)
    · obtain ⟨s, hs⟩ := hl
      rw [W.leaf x s hs]
      exact ⟨fun _ => trivial, by simp [hT]; exact hx⟩
    · have hnl : ∀ s : Str, N[x]? ≠ some (Row.leaf s) := fun s z => hl ⟨s, z⟩
      have kid : ∀ k ∈ keeps N e R x, x < k ∧ k < N.length ∧ isNil (R k) = false := fun k hk => by
        obtain ⟨h1, h2⟩ := List.mem_filter.mp hk
        have h3 : (decide (e k = x) && !isNil (R k)) = true := h2
        rw [Bool.and_eq_true] at h3
        refine ⟨G.down x k h1, G.lt x k h1, ?_⟩
        have := h3.2
        simpa using this
      rw [W.inner x hx hnl]
      refine ⟨fun hn => ⟨fun z => ?_, Fulls_iff.mpr fun t ht => ?_⟩, ?_⟩
      · rw [z] at hn
        cases hn
      · obtain ⟨k, hk, rfl⟩ := List.mem_map.mp ht
        obtain ⟨h1, h2, h3⟩ := kid k hk
        exact (ih k h2 (by omega)).1 h3
      · have hm : hTs ((keeps N e R x).map R) ≤ N.length - x - 2 := hTs_max fun t ht => by
          obtain ⟨k, hk, rfl⟩ := List.mem_map.mp ht
          obtain ⟨h1, h2, h3⟩ := kid k hk
          have := (ih k h2 (by omega)).2
          omega
        show hTs ((keeps N e R x).map R) + 1 + x < N.length
        by_cases hk : keeps N e R x = []
        · rw [hk]
          show 0 + 1 + x < N.length
          -- a row without leaf has a kid below it
          obtain ⟨r, er⟩ := row_ex hx
          have : kidsAt N x ≠ [] := by
            rw [kidsAt_some er]
            cases r with
            | leaf s => exact absurd er (hnl s)
            | fork ks =>
              have := (G.two x ks er).1
              intro z
              have z : ks = [] := z
              rw [z] at this
              exact absurd this (by decide)
            | join k => intro z; cases z
          obtain ⟨k, hk⟩ := List.exists_mem_of_ne_nil _ this
          have := G.down x k hk
          have := G.lt x k hk
          omega
        · obtain ⟨k, hk⟩ := List.exists_mem_of_ne_nil _ hk
          obtain ⟨h1, h2, _⟩ := kid k hk
          omega
theorem Raw.names (W : Raw N e R) (G : Good N) : ∀ d x, x < N.length → N.length - x ≤ d → ∀ s ∈ namesT (R x), ∃ j i, N[j]? = some (Row.leaf s) ∧ Up e j i x := by
  intro d
  induction d with
  | zero => intro x hx h; omega
  | succ d ih =>
    intro x hx h s hs
    by_cases hl : ∃ s, N[x]? = some (Row.leaf s)
    · obtain ⟨z, hz⟩ := hl
      rw [W.leaf x z hz] at hs
      have : s = z := by simpa [namesT] using hs
      subst this
      exact ⟨x, 0, hz, .refl x⟩
    · have hnl : ∀ s : Str, N[x]? ≠ some (Row.leaf s) := fun s z => hl ⟨s, z⟩
      rw [W.inner x hx hnl] at hs
      have hs : s ∈ namesTs ((keeps N e R x).map R) := hs
      rw [namesTs_flat] at hs
      obtain ⟨t, ht, hst⟩ := List.mem_flatMap.mp hs
      obtain ⟨k, hk, rfl⟩ := List.mem_map.mp ht
      obtain ⟨h1, h2⟩ := List.mem_filter.mp hk
      have h3 : (decide (e k = x) && !isNil (R k)) = true := h2
      rw [Bool.and_eq_true] at h3
      have ek := of_decide_eq_true h3.1
      have hd := G.down x k h1
      have hkn := G.lt x k h1
      obtain ⟨j, i, hj, u⟩ := ih k hkn (by omega) s hst
      refine ⟨j, i + 1, hj, u.app (.step (by omega) ?_)⟩
      rw [ek]
      exact .refl x
theorem nodup_flat {α β : Type} (f : α → List β) : ∀ {l : List α}, l.Nodup → (∀ a ∈ l, (f a).Nodup) → (∀ a ∈ l, ∀ b ∈ l, ∀ y, y ∈ f a → y ∈ f b → a = b) → (l.flatMap f).Nodup
  | [], _, _, _ => List.nodup_nil
  | a :: l, hn, h1, h2 => by
    obtain ⟨n1, n2⟩ := List.nodup_cons.mp hn
    rw [List.flatMap_cons, List.nodup_append]
    refine ⟨h1 a (by simp), nodup_flat f n2 (fun b hb => h1 b (by simp [hb])) (fun b hb c hc => h2 b (by simp [hb]) c (by simp [hc])), fun y hy z hz e => ?_⟩
    subst e
    obtain ⟨b, hb, hyb⟩ := List.mem_flatMap.mp hz
    have := h2 a (by simp) b (by simp [hb]) y hy hyb
    subst this
    exact n1 hb
theorem Raw.nodup (W : Raw N e R) (E : Elder N e) (G : Good N) : ∀ d x, x < N.length → N.length - x ≤ d → (namesT (R x)).Nodup := by
  intro d
  induction d with
  | zero => intro x hx h; omega
  | succ d ih =>
    intro x hx h
    by_cases hl : ∃ s, N[x]? = some (Row.leaf s)
    · obtain ⟨z, hz⟩ := hl
      rw [W.leaf x z hz]
      simp [namesT]
    · have hnl : ∀ s : Str, N[x]? ≠ some (Row.leaf s) := fun s z => hl ⟨s, z⟩
      rw [W.inner x hx hnl]
      show (namesTs ((keeps N e R x).map R)).Nodup
      rw [namesTs_flat, List.flatMap_map]
      have kid : ∀ k ∈ keeps N e R x, x < k ∧ k < N.length ∧ e k = x := fun k hk => by
        obtain ⟨h1, h2⟩ := List.mem_filter.mp hk
        have h3 : (decide (e k = x) && !isNil (R k)) = true := h2
        rw [Bool.and_eq_true] at h3
        exact ⟨G.down x k h1, G.lt x k h1, of_decide_eq_true h3.1⟩
      refine nodup_flat _ (List.Nodup.sublist List.filter_sublist (G.kids_nodup x)) (fun k hk => ?_) fun k hk l hl s h1 h2 => ?_
      · obtain ⟨a, b, _⟩ := kid k hk
        exact ih k b (by omega)
      · obtain ⟨a1, b1, c1⟩ := kid k hk
        obtain ⟨a2, b2, c2⟩ := kid l hl
        obtain ⟨j, i, hj, u⟩ := W.names G _ k b1 (Nat.le_refl _) s h1
        obtain ⟨j', i', hj', u'⟩ := W.names G _ l b2 (Nat.le_refl _) s h2
        have ej := names_inj G.nd j j' s hj hj'
        subst ej
        have hjn := (List.getElem?_eq_some_iff.mp hj).1
        have v : Up e j (i + 1) x := u.app (.step (by omega) (by rw [c1]; exact .refl x))
        have v' : Up e j (i' + 1) x := u'.app (.step (by omega) (by rw [c2]; exact .refl x))
        have := Up.same E G hjn v v'
        have : i = i' := by omega
        subst this
        exact u.det u'
/-! ### the tree's rows -/
variable {M : Net}
theorem ord_child {ts : List Tree} {i : Nat} {u : Tree} (o : Ord (.node ts) u) (r : Rep M i u) : ∀ t ∈ ts, ∃ u', Ord t u' ∧ ((∃ k ∈ kidsAt M i, Rep M k u') ∨ Rep M i u') := by
  intro t ht
  cases o with
  | one o =>
    have : t = _ := List.mem_singleton.mp ht
    subst this
    exact ⟨u, o, .inr r⟩
  | many h2 o p f =>
    obtain ⟨v, hv, ov⟩ := o.mem ht
    have hv := p.mem_iff.mpr hv
    cases r with
    | node kd h hk hr => exact ⟨v, ov, .inl ⟨kd v, by rw [kidsAt_some h]; exact hk v hv, hr v hv⟩⟩
theorem in_rl {t : Tree} {d : Nat} {a : Str} (h : In t d a) : ∀ i u, Ord t u → Rep M i u → ∃ d', d' ≤ d ∧ Rl M i a d' := by
  induction h with
  | leaf s =>
    intro i u o r
    cases o
    cases r with
    | leaf h => exact ⟨0, Nat.le_refl _, i, h, .refl i⟩
  | node ht _ ih =>
    intro i u o r
    obtain ⟨u', o', q⟩ := ord_child o r _ ht
    rcases q with ⟨k, hk, r'⟩ | r'
    · obtain ⟨d', hd, j, hj, dn⟩ := ih k u' o' r'
      exact ⟨d' + 1, by omega, j, hj, .step hk dn⟩
    · obtain ⟨d', hd, q⟩ := ih i u' o' r'
      exact ⟨d', by omega, q⟩
theorem Raw.below (W : Raw N e R) (E : Elder N e) (G : Good N) {u0 : Tree} (o : Ord (R 0) u0) (r : Rep M 0 u0) : ∀ m x, x < N.length → isNil (R x) = false → (∀ y i, Up e x i y → isNil (R y) = false) → Up e x m 0 → ∃ i u, Ord (R x) u ∧ Rep M i u := by
  intro m
  induction m with
  | zero =>
    intro x hx hn _ u
    cases u
    exact ⟨0, u0, o, r⟩
  | succ m ih =>
    intro x hx hn hall u
    cases u with
    | step h0 u =>
      have hl := E.lt G (show 0 < x by omega) hx
      have hk := E x (by omega) hx
      obtain ⟨i, t, ot, rt⟩ := ih (e x) (by omega) (hall _ 1 (.step h0 (.refl _))) (fun y i v => hall y (i + 1) (.step h0 v)) u
      have hnl : ∀ s : Str, N[e x]? ≠ some (Row.leaf s) := fun s z => by
        rw [kidsAt_some z] at hk
        cases hk
      have hm : x ∈ keeps N e R (e x) := List.mem_filter.mpr ⟨hk, by rw [decide_eq_true rfl, hn]; rfl⟩
      rw [W.inner (e x) (by omega) hnl] at ot
      obtain ⟨u', o', q⟩ := ord_child ot rt _ (List.mem_map_of_mem hm)
      rcases q with ⟨k, _, r'⟩ | r'
      · exact ⟨k, u', o', r'⟩
      · exact ⟨i, u', o', r'⟩
/-- the shown tree's distances are no more than those by the choice -/
theorem Raw.near (W : Raw N e R) (E : Elder N e) (G : Good N) {u0 : Tree} (o : Ord (R 0) u0) (r : Rep M 0 u0) {a b : Str} {m d : Nat} (h : Btw N e a b m) (hd : IsDist M a b d) : d ≤ m := by
  obtain ⟨ja, jb, i, k, x, h1, h2, u1, u2, rfl, _⟩ := h
  have hja := (List.getElem?_eq_some_iff.mp h1).1
  have hx : x < N.length := by have := (u1.dn E G hja).2; omega
  obtain ⟨i1, n1⟩ := W.in E G h1 i x u1
  obtain ⟨i2, n2⟩ := W.in E G h2 k x u2
  obtain ⟨m, um⟩ := Up.top E G x hx
  obtain ⟨i', u, ou, ru⟩ := W.below E G o r m x hx n1 (fun y l v => (W.in E G h1 (i + l) y (u1.app v)).2) um
  obtain ⟨d1, l1, r1⟩ := in_rl i1 i' u ou ru
  obtain ⟨d2, l2, r2⟩ := in_rl i2 i' u ou ru
  have := hd.least i' d1 d2 r1 r2
  omega
theorem In.mem {t : Tree} {d : Nat} {a : Str} (h : In t d a) : a ∈ namesT t := by
  induction h with
  | leaf s => simp [namesT]
  | node ht _ ih =>
    show _ ∈ namesTs _
    rw [namesTs_flat]
    exact List.mem_flatMap.mpr ⟨_, ht, ih⟩
theorem Raw.all (W : Raw N e R) (E : Elder N e) (G : Good N) {a : Str} : a ∈ namesT (R 0) ↔ a ∈ JT.names N := by
  constructor
  · intro h
    obtain ⟨j, _, hj, _⟩ := W.names G _ 0 G.pos (Nat.le_refl _) a h
    exact mem_names.mpr ⟨j, hj⟩
  · intro h
    obtain ⟨j, hj⟩ := mem_names.mp h
    obtain ⟨i, u⟩ := Up.top E G j (List.getElem?_eq_some_iff.mp hj).1
    exact (W.in E G hj i 0 u).1.mem
theorem Good.some_leaf (G : Good N) : ∃ a, a ∈ JT.names N := by
  obtain ⟨r, er⟩ := row_ex (N := N) (i := N.length - 1) (by have := G.pos; omega)
  have hk : kidsAt N (N.length - 1) = [] := by
    rcases hq : kidsAt N (N.length - 1) with _ | ⟨k, ks⟩
    · rfl
    · have h1 : k ∈ kidsAt N (N.length - 1) := by rw [hq]; simp
      have := G.down _ k h1
      have := G.lt _ k h1
      omega
  rw [kidsAt_some er] at hk
  cases r with
  | leaf s => exact ⟨s, mem_names.mpr ⟨_, er⟩⟩
  | fork ks =>
    have := (G.two _ ks er).1
    have hk : ks = [] := hk
    rw [hk] at this
    exact absurd this (by decide)
  | join k => cases hk
end
/-! ### such a tree there is -/
def rawF (N : Net) (e : Nat → Nat) : Nat → Nat → Tree
  | 0, _ => .node []
  | f + 1, i => match N[i]? with
    | some (.leaf s) => .leaf s
    | _ => .node (((kidsAt N i).filter fun k => decide (e k = i) && !isNil (rawF N e f k)).map (rawF N e f))
theorem rawF_eq {N : Net} (G : Good N) (e : Nat → Nat) : ∀ f f' i, N.length - i ≤ f → N.length - i ≤ f' → i < N.length → rawF N e f i = rawF N e f' i := by
  intro f
  induction f with
  | zero => intro f' i h; omega
  | succ f ih =>
    intro f' i h h' hi
    cases f' with
    | zero => omega
    | succ f' =>
      have hk : ∀ k ∈ kidsAt N i, rawF N e f k = rawF N e f' k := fun k hk => by
        have := G.down i k hk
        have := G.lt i k hk
        exact ih f' k (by omega) (by omega) (by omega)
      have e1 : ((kidsAt N i).filter fun k => decide (e k = i) && !isNil (rawF N e f k)) = ((kidsAt N i).filter fun k => decide (e k = i) && !isNil (rawF N e f' k)) := List.filter_congr fun k hk' => by rw [hk k hk']
      have e2 : ((kidsAt N i).filter fun k => decide (e k = i) && !isNil (rawF N e f k)).map (rawF N e f) = ((kidsAt N i).filter fun k => decide (e k = i) && !isNil (rawF N e f' k)).map (rawF N e f') := by
        rw [e1]
        exact List.map_congr_left fun k hk' => hk k (List.mem_filter.mp hk').1
      simp only [rawF]
      split
      · rfl
      · rw [e2]
theorem raw_ex {N : Net} (G : Good N) (e : Nat → Nat) : ∃ R, Raw N e R := by
  refine ⟨fun i => rawF N e N.length i, fun i s h => ?_, fun i hi h => ?_⟩
  · have hl : N.length = N.length - 1 + 1 := by have := G.pos; omega
    show rawF N e N.length i = .leaf s
    rw [hl]
    simp only [rawF, h]
  · have hl : N.length = N.length - 1 + 1 := by have := G.pos; omega
    show rawF N e N.length i = .node ((keeps N e (fun i => rawF N e N.length i) i).map fun i => rawF N e N.length i)
    have hk : ∀ k ∈ kidsAt N i, rawF N e (N.length - 1) k = rawF N e N.length k := fun k hk => by
      have := G.down i k hk
      have := G.lt i k hk
      exact rawF_eq G e _ _ k (by omega) (by omega) (by omega)
    have e1 : ((kidsAt N i).filter fun k => decide (e k = i) && !isNil (rawF N e (N.length - 1) k)) = keeps N e (fun i => rawF N e N.length i) i := List.filter_congr fun k hk' => by rw [hk k hk']
    have e2 : ((kidsAt N i).filter fun k => decide (e k = i) && !isNil (rawF N e (N.length - 1) k)).map (rawF N e (N.length - 1)) = (keeps N e (fun i => rawF N e N.length i) i).map fun i => rawF N e N.length i := by
      rw [e1]
      exact List.map_congr_left fun k hk' => hk k (List.mem_filter.mp hk').1
    conv => lhs; rw [hl]
    simp only [rawF]
    rw [e2]
theorem elder_one {N : Net} (G : Good N) {c : List Nat} {k i : Nat} (hk : k ∈ kidsAt N i) (hj : k ∉ joins N) : elder N c k = i := by
  have h0 : 0 < k := by have := G.down i k hk; omega
  have hl := G.led k (G.lt i k hk)
  rw [due_one h0 hj] at hl
  obtain ⟨x, ex⟩ := List.length_eq_one_iff.mp hl
  have hm := mem_ways.mpr hk
  rw [ex] at hm
  unfold elder
  rw [if_neg hj, ex]
  have : i = x := by simpa using hm
  rw [this]
  rfl
theorem eqv_nil (t : Tree) : PyData.eqv (encT t) (.tuple []) = isNil t := by
  cases t with
  | leaf s => rfl
  | node ts =>
    cases ts with
    | nil => rfl
    | cons t ts => rfl
theorem kept_kids (P : Nat → Bool) (g : Nat → V) (l : List Nat) : kept (fun j => P (l.getD j 0)) (fun j => g (l.getD j 0)) l.length = (l.filter P).map g := by
  have main : ∀ i, i ≤ l.length → kept (fun j => P (l.getD j 0)) (fun j => g (l.getD j 0)) i = ((l.take i).filter P).map g := by
    intro i
    induction i with
    | zero => intro _; rfl
    | succ i ih =>
      intro h
      have ei : l[i]? = some l[i] := List.getElem?_eq_getElem (by omega)
      have eg : l.getD i 0 = l[i] := by rw [List.getD_eq_getElem?_getD, ei]; rfl
      rw [kept_succ, ih (by omega), List.take_add_one, ei, List.filter_append, List.map_append]
      simp only [eg]
      cases q : P l[i] <;> simp [q]
  rw [main _ (Nat.le_refl _), List.take_length]
end JT
/-! S1: shown_by. -/
namespace JT
open PySem PySem.Spec PyProof.Rows L2 PySem.W
abbrev s_shown_by : Stmt := topS 53
abbrev n_shown_by : List Str := ["net", "choice", "ways", "kept", "trees", "at", "word", "what", "join", "side", "kid"]
theorem sc_shown_by : FnScope n_shown_by ["net", "choice"] (defScope s_shown_by) :=
  ⟨rfl, rfl, rfl, by decide +kernel, rfl, by decide +kernel, by decide +kernel⟩
section
variable {P : Program} {w : World} {K : PySem.W.Frag} {mg : Str → Option Value} {base : Heap}
def spShownBy : Sp := fun vs H Q _ => ∃ v u N c, vs = [v, u] ∧ DT H v (encN N) ∧ DT H u (encC c) ∧ Good N ∧ ChOk N c ∧ N.length ≤ 39 ∧ ∀ H' v' t R, Same H H' → DT H' v' (encT t) → Raw N (elder N c) R → Ord (R 0) t → TOk t → Q v' H'
theorem c_shown_by (T : Top mg) (D : Def K mg "shown_by" "shown_by" s_shown_by) (C_all_ways : Cal P w K mg base 2 "all_ways" spWays) (C_joins_of : Cal P w K mg base 1 "joins_of" (spJoins true)) (C_kids_of : Cal P w K mg base 1 "kids_of" spKidsOf) (C_set_right : Cal P w K mg base 45 "set_right" spSetRight) : Cal P w K mg base 46 "shown_by" spShownBy := by
  have C_all_ways := C_all_ways.mono (show 2 ≤ 45 by decide)
  have C_joins_of := C_joins_of.mono (show 1 ≤ 45 by decide)
  have C_kids_of := C_kids_of.mono (show 1 ≤ 45 by decide)
  refine D.cal sc_shown_by (fun _ _ _ _ _ _ us hl => match us, hl with | [_, _], _ => rfl) (fun vs H Q E h => ?_) fun f cdv A outer s H vs Q E hr hsp => ?_
  · obtain ⟨_, _, _, _, rfl, _⟩ := h; rfl
  have hu := hu_of hr
  have hu64 := hu64_of hr
  refine ⟨_, (pss_cons (ps_set (i := 2) sc_shown_by.nd rfl (Or.inr rfl) (pe_f C_all_ways hr rfl (pa_cons (pv 0) pa_nil)))
    (pss_cons (ps_set (i := 3) sc_shown_by.nd rfl (Or.inr rfl) (pe_dc (own := [("join", 8), ("side", 9)]) (tt := tYes) rfl sc_shown_by.nd (pi_zipTS rfl T.zip (pa_cons (pe_f C_joins_of hr rfl (pa_cons (pv 0) pa_nil)) (pa_cons (pv 1) pa_nil))) (blkOk_by (own := [("join", 8), ("side", 9)]) (N := n_shown_by) (sc := defScope s_shown_by) (by decide +kernel)) (fun _ _ _ _ _ => (pgt (n := 2) rfl (pgs_cons (pg_name (i := 8) sc_shown_by.nd rfl (Or.inl rfl)) (pgs_cons (pg_name (i := 9) sc_shown_by.nd rfl (Or.inl rfl)) pgs_nil)))) (fun _ _ _ _ _ => pts_nil) (fun _ _ _ _ _ => (pv 8)) (fun _ _ _ _ _ => (pe_ix ixl (pe_ix ixl (pv 2) (pv 8) (fun _ _ => rfl)) (pv 9) (fun _ _ => rfl)))))
    (pss_cons (ps_set (i := 4) sc_shown_by.nd rfl (Or.inr rfl) pe_dnewK)
    (pss_cons (ps_for PassesOwn.never rfl (pi_range3 rfl T.range (pa_cons (pe_op op_sub (pe_callB lenq rfl T.len PySem.boot_len (pa_cons (pv 0) pa_nil)) pe_int) (pa_cons (pe_un un_neg pe_int) (pa_cons (pe_un un_neg pe_int) pa_nil)))) (pg_name (i := 5) sc_shown_by.nd rfl (Or.inr rfl))
    (pss_cons (ps_asg (pe_ix ixt (pv 0) (pv 5) (fun _ _ => rfl)) (pgt (n := 2) rfl (pgs_cons (pg_name (i := 6) sc_shown_by.nd rfl (Or.inl rfl)) (pgs_cons (pg_name (i := 7) sc_shown_by.nd rfl (Or.inl rfl)) pgs_nil))))
    (pss_one (ps_if (pt_cmpR op_eq (pv 6) pe_str (nomark _)) (pss_one (ps_dput hu (pv 4) (pv 5) (pv 7) rfl)) (pss_one (ps_dput hu (pv 4) (pv 5) (pe_callTy tupOf rfl T.tuple (by decide +kernel) (pa_cons (pe_lc (own := [("kid", 10)]) (g := gName 10) rfl sc_shown_by.nd (pi_tupK K (pe_f C_kids_of hr rfl (pa_cons (pe_ix ixt (pv 0) (pv 5) (fun _ _ => rfl)) pa_nil))) (blkOk_by (own := [("kid", 10)]) (N := n_shown_by) (sc := defScope s_shown_by) (by decide +kernel)) (fun _ _ _ _ _ => (pg_name (i := 10) sc_shown_by.nd rfl (Or.inl rfl))) (fun _ _ _ _ _ => (pts_one (PW.pt (pw_and (pt_cmpR op_eq (pe_dget2 hu (pv 3) (pv 10) (pv 5) ⟨rfl, rfl, rfl, rfl⟩) (pv 5) (nomark _)) (pw_and1 (pt_cmpR (ned hu64) (pe_dget hu (pv 4) (pv 10) (fun _ _ => rfl)) (pe_tup pa_nil) (nomark _))))))) (fun _ _ _ _ _ => (pe_dget hu (pv 4) (pv 10) (fun _ _ => rfl)))) pa_nil)) rfl))))))
    (pss_one (ps_ret (pe_f C_set_right hr rfl (pa_cons (pe_dget hu (pv 4) pe_int (fun _ _ => rfl)) pa_nil)))))))), ?_⟩
  obtain ⟨v, u, N, c, rfl, hd, hc, G, C, h39, q⟩ := hsp
  obtain ⟨a, xs, rfl, ha, hlen, hrow⟩ := net_at hd
  obtain ⟨cu, rfl, hcu⟩ := c_at hc
  have h1 := G.pos
  have El := elder_ok G.toLoose C
  have clen := C.len
  have jnd := joins_nodup N
  obtain ⟨R, W⟩ := raw_ex G (elder N c)
  refine ⟨_, rfl, _, N, rfl, hd, by omega, G.lt, fun i => Nat.le_trans (G.kids_le i) (by decide), fun H1 wl ls S1 wl0 hwl_1 hll hw => ?_⟩
  refine ⟨_, rfl, .ref a, N, rfl, hd.up (Same.tk S1), by omega, fun H2 jl S2 jl0 hjl => ⟨_, rfl, jl, cu, _, _, rfl, sq_at hjl, sq_at (S2 _ _ (S1 _ _ hcu)), fun kp hkp => ?_⟩⟩
  have hjl : H2 jl = some (.tup ((joins N).map natV)) := hjl
  have S02 := Same.trans' S1 S2
  refine dc_gen (n := (joins N).length) (fun i H3 => Same H2 H3 ∧ DictN H3 kp N.length (fun k => if k ∈ (joins N).take i then some (elder N c k) else none)) ⟨same_upd hkp, [], upd_same, List.nodup_nil, by simp, fun i => by simp; rfl⟩
    (fun i H3 hi ⟨S3, _⟩ => ⟨_, _, _, _, sq_at (S3 _ _ hjl), sq_at (S3 _ _ (S02 _ _ hcu)), nats_at hi, nats_at (show i < c.length by omega)⟩) (fun H3 ⟨S3, _⟩ => ⟨_, _, sq_at (S3 _ _ hjl), sq_at (S3 _ _ (S02 _ _ hcu)), by rw [nats_len], by rw [nats_len]; exact clen⟩) (fun i H3 x H4 hi ⟨S3, d3⟩ hy => ?_) fun H3 ⟨S3, d3⟩ => ?_
  · obtain ⟨t, y1, y2, rfl, ht, rfl, hy1, hy2⟩ := hy
    have hy1 := hy1 _ (sq_at (S3 _ _ hjl))
    have hy2 := hy2 _ (sq_at (S3 _ _ (S02 _ _ hcu)))
    obtain ⟨jn, ejn⟩ : ∃ jn, (joins N)[i]? = some jn := ⟨_, List.getElem?_eq_getElem hi⟩
    obtain ⟨cb, ecb⟩ : ∃ cb, c[i]? = some cb := ⟨_, List.getElem?_eq_getElem (by omega)⟩
    rw [List.getElem?_map, ejn] at hy1
    rw [List.getElem?_map, ecb] at hy2
    cases hy1
    cases hy2
    have hjm : jn ∈ joins N := List.mem_of_getElem? ejn
    have hidx : (joins N).idxOf jn = i := by
      have h1 : (joins N).idxOf jn < (joins N).length := List.idxOf_lt_length_iff.mpr hjm
      have h2 : (joins N)[(joins N).idxOf jn]? = some jn := by rw [List.getElem?_eq_getElem h1, List.getElem_idxOf h1]
      exact (List.getElem?_inj h1 jnd).mp (h2.trans ejn.symm)
    have held : elder N c jn = (ways N jn).getD cb 0 := by
      unfold elder
      rw [if_pos hjm, hidx, List.getD_eq_getElem?_getD (l := c), ecb]
      rfl
    have hcb := C.bit _ (List.mem_of_getElem? ecb)
    have hjn := joins_lt _ hjm
    have hwl2 : (ways N jn).length = 2 := by rw [G.led _ hjn, due_join G.toLoose hjm]
    obtain ⟨l, el⟩ : ∃ l, ls[jn]? = some l := ⟨_, List.getElem?_eq_getElem (by omega)⟩
    have S4 : Same H3 (upd H3 t (.tup [natV jn, natV cb])) := same_upd ht
    have d4 := d3.frame (H' := upd H3 t (.tup [natV jn, natV cb])) fun o e => S4 _ _ e
    refine ⟨t, _, rfl, upd_same, rfl, _, _, rfl, _, _, rfl, rfl, rfl, ?_⟩
    have S24 := Same.trans' S3 S4
    generalize upd H3 t (.tup [natV jn, natV cb]) = H4 at S4 d4 S24 ⊢
    have hl := S24 _ _ (S2 _ _ (hw _ _ el))
    have hat : (ls.map V.ref)[jn]? = some (.ref l) := by rw [List.getElem?_map, el]; rfl
    have hw0 : ((waysOf (edges N) jn).map natV)[cb]? = some (natV ((ways N jn).getD cb 0)) := by
      rw [List.getElem?_map, List.getD_eq_getElem?_getD]
      show Option.map natV (ways N jn)[cb]? = _
      rw [List.getElem?_eq_getElem (show cb < (ways N jn).length by omega)]
      rfl
    obtain ⟨kvs, f1, f2, f3, f4⟩ := d4
    have hkl := keysN_len f2 f3
    refine ⟨_, rfl, _, rfl, _, rfl, wl, _, (jn : Int), _, rfl, rfl, S24 _ _ (S2 _ _ hwl_1), atI_nat hat, _, rfl, l, _, (cb : Int), _, rfl, rfl, hl, atI_nat hw0, kvs, nk jn, rfl, f1, smallT (by omega), fun b o e => ?_, ?_⟩
    · rw [upd_ne (ne_of_none e hkp)]
      exact S24 _ _ e
    · have z := dictN_put (H := H4) (p := kp) (m := (ways N jn).getD cb 0) f2 f3 f4 hjn
      have eF : (fun j => if j = jn then some ((ways N jn).getD cb 0) else if j ∈ (joins N).take i then some (elder N c j) else none) = fun k => if k ∈ (joins N).take (i + 1) then some (elder N c k) else none := by
        funext j
        have et : (joins N).take (i + 1) = (joins N).take i ++ [jn] := by rw [List.take_add_one, ejn]; rfl
        rw [et]
        by_cases e : j = jn
        · subst e
          rw [if_pos rfl, if_pos (by simp), held]
        · rw [if_neg e]
          have : (j ∈ (joins N).take i ++ [jn]) ↔ j ∈ (joins N).take i := by simp [e]
          by_cases r : j ∈ (joins N).take i
          · rw [if_pos r, if_pos (this.mpr r)]
          · rw [if_neg r, if_neg (fun z => r (this.mp z))]
      rw [eF] at z
      exact z
  · rw [List.take_length] at d3
    have S03 := Same.trans' S02 S3
    refine fun td htd => ?_
    have S4 := same_upd (o := .dK []) htd
    have htd4 : upd H3 td (.dK []) td = some (.dK []) := upd_same
    have td0 : H td = none := by
      cases e : H td with
      | none => rfl
      | some o => rw [S03 _ _ e] at htd; cases htd
    generalize upd H3 td (.dK []) = H4 at S4 htd4 ⊢
    refine ⟨_, rfl, a, xs, rfl, .inr (S4 _ _ (S03 _ _ ha)), (xs.length : Int), 1, rfl, rfl, 1, rfl, 1, rfl, (xs.length : Int) - 1, -1, -1, xs.length, rfl, ?_, ?_⟩
    · have z := RgC.neg (i := (xs.length : Int) - 1) (j := -1) (by omega) (by omega) (by decide) (by decide)
      rw [show ((xs.length : Int) - 1 - -1).toNat = xs.length by omega] at z
      exact z
    let TD : Hp → Nat → Prop := fun H5 b => ∃ kvs : List (Key × V), H5 td = some (.dK kvs) ∧ (kvs.map (·.1)).Nodup ∧ (∀ k ∈ kvs.map (·.1), ∃ i, i < N.length ∧ k = nk i) ∧ ∀ i, b ≤ i → i < N.length → ∃ y, valV kvs (nk i) = some y ∧ DT H5 y (encT (R i))
    refine for_rangeC (lo := (xs.length : Int) - 1) (c := -1) (n := xs.length) (fun t σ H5 => (∃ s5 s6 s7 s8 s9 s10, σ = [some (.ref a), some (.ref cu), some (.ref wl), some (.ref kp), some (.ref td), s5, s6, s7, s8, s9, s10]) ∧ Same H3 H5 ∧ TD H5 (N.length - t))
      ⟨⟨_, _, _, _, _, _, rfl⟩, S4, [], htd4, List.nodup_nil, by simp, fun i h1 h2 => by omega⟩ (fun t σ H5 ht ⟨⟨s5, s6, s7, s8, s9, s10, es⟩, S5, tD⟩ => ?_) fun σ H5 ⟨⟨s5, s6, s7, s8, s9, s10, es⟩, S5, tD⟩ => ?_
    · subst es
      obtain ⟨i, hi⟩ : ∃ i, i = N.length - 1 - t := ⟨_, rfl⟩
      have hin : i < N.length := by omega
      have ex : V.int ((xs.length : Int) - 1 + (t : Nat) * -1) = natV i := by
        unfold natV
        congr 1
        omega
      rw [ex]
      obtain ⟨xi, hxi⟩ : ∃ xi, xs[i]? = some xi := ⟨_, List.getElem?_eq_getElem (by omega)⟩
      obtain ⟨r, er, hdr⟩ := hrow i xi hxi
      obtain ⟨b, y, rfl, hb, hy⟩ := row_at hdr
      have S05 := Same.trans' S03 S5
      have hb5 := S05 _ _ hb
      have ha5 := S05 _ _ ha
      have ek : kidsAt N i = r.kids := kidsAt_some er
      obtain ⟨tkv, g1, g2, g3, g4⟩ := tD
      have gl := keysN_len g2 g3
      have rest : ∀ {H6 : Hp} {y : V}, Same H5 H6 → DT H6 y (encT (R i)) → Same H3 (upd H6 td (.dK (putK tkv (nk i) y))) ∧ TD (upd H6 td (.dK (putK tkv (nk i) y))) (N.length - (t + 1)) := by
        intro H6 y S6 dy
        have tk6 : TK H6 (upd H6 td (.dK (putK tkv (nk i) y))) := tk_set (S6 _ _ g1) no_dK
        refine ⟨fun b o e => ?_, _, upd_same, nd_put _ _ g2, fun k hk => ?_, fun j h1 h2 => ?_⟩
        · rw [upd_ne (ne_of_none e htd)]
          exact S6 _ _ (S5 _ _ e)
        · rcases mem_put.mp hk with e | h
          · exact ⟨i, hin, e⟩
          · exact g3 k h
        · rw [valV_put]
          by_cases e : j = i
          · subst e
            rw [if_pos rfl]
            exact ⟨y, rfl, dy.up tk6⟩
          · rw [if_neg (fun z => e (nk_inj z))]
            obtain ⟨y', e1, e2⟩ := g4 j (by omega) h2
            exact ⟨y', e1, e2.up (TK.trans (Same.tk S6) tk6)⟩
      refine ⟨_, rfl, _, rfl, a, xs, (i : Int), _, rfl, rfl, ha5, atI_nat hxi, b, _, rfl, hb5, rfl, _, _, rfl, _, _, rfl, rfl, ?_⟩
      refine ⟨_, rfl, rfl, _, rfl, ?_⟩
      by_cases hlf : ∃ s, r = .leaf s
      · obtain ⟨s, rfl⟩ := hlf
        rw [show y = .str s from DT.of_str hy]
        refine iteP rfl ?_
        have z := rest (H6 := H5) (y := .str s) (Same.refl' _) (by rw [W.leaf i s er]; exact .str s)
        exact ⟨_, rfl, _, rfl, _, rfl, td, _, rfl, DPut.k (k := nk i) g1 (smallT (by omega)), ⟨_, _, _, _, _, _, rfl⟩, z.1, z.2⟩
      · have hnl : ∀ s : Str, N[i]? ≠ some (Row.leaf s) := fun s e => hlf ⟨s, by rw [er] at e; exact Option.some.inj e⟩
        have htag : ¬ V.str r.tag = V.str "leaf" := fun z => by
          have z : r.tag = "leaf" := by injection z
          have z := tag_leaf.mp z
          cases r with
          | leaf s => exact hlf ⟨s, rfl⟩
          | fork ks => cases z
          | join k => cases z
        refine iteN htag ?_
        refine ⟨_, rfl, _, rfl, a, xs, (i : Int), _, rfl, rfl, ha5, atI_nat hxi, .ref b, r, rfl, hdr.up (Same.tk S05), fun H6 p S6 hp => ⟨p, rfl, ⟨_, sq_at hp⟩, fun D7 hD7 => ?_⟩⟩
        rw [← ek] at hp
        have gp := S6 _ _ g1
        refine lc_map (n := (kidsAt N i).length) (fun j => (fun k => decide (elder N c k = i) && !isNil (R k)) ((kidsAt N i).getD j 0)) (fun j => (fun k => (valV tkv (nk k)).getD .non) ((kidsAt N i).getD j 0)) hD7 (by have := G.kids_le i; omega) (fun j H7 hj hS => go_tup (hS _ _ hp) (by rw [nats_len]; exact hj)) (fun H7 hS => st_tup (hS _ _ hp) (by rw [nats_len]; exact Nat.le_refl _)) (fun j H7 z H8 Kt Kf hj hS hz hKt hKf => ?_) fun H7 hS7 hl7 => ?_
        · obtain ⟨rfl, hz⟩ := hz
          have hz := hz _ (sq_at (hS _ _ hp))
          rw [nats_at hj] at hz
          cases hz
          have hkm : (kidsAt N i)[j] ∈ kidsAt N i := List.getElem_mem hj
          have eg : (kidsAt N i).getD j 0 = (kidsAt N i)[j] := by rw [List.getD_eq_getElem?_getD, List.getElem?_eq_getElem hj]; rfl
          rw [eg] at hKt hKf
          generalize (kidsAt N i)[j] = kd at hkm hKt hKf
          have hdn := G.down i kd hkm
          have hlt := G.lt i kd hkm
          obtain ⟨y', ev, dv⟩ := g4 kd (by omega) hlt
          have S8 := Same.trans' S6 hS
          have dv8 := dv.up (Same.tk S8)
          obtain ⟨kkv, k1, k2, k3, k4⟩ := d3.frame (H' := H8) fun o e => S8 _ _ (S5 _ _ e)
          -- the elder by the dict
          have hget : ∃ o, valV kkv (nk kd) = o ∧ o.getD (natV i) = natV (elder N c kd) := by
            refine ⟨_, rfl, ?_⟩
            rw [k4]
            show (Option.map natV (if kd ∈ joins N then some (elder N c kd) else none)).getD (natV i) = _
            by_cases hj' : kd ∈ joins N
            · rw [if_pos hj']
              rfl
            · rw [if_neg hj', elder_one G hkm hj']
              rfl
          obtain ⟨o, eo, eo2⟩ := hget
          refine ⟨rfl, _, rfl, kp, rfl, .inl ⟨_, .inl k1⟩, _, rfl, _, rfl, _, DGet.k (k := nk kd) k1, ?_⟩
          rw [eo, eo2]
          refine ⟨_, rfl, rfl, _, rfl, ?_⟩
          have edec : decide (natV (elder N c kd) = natV i) = decide (elder N c kd = i) := by
            have : (natV (elder N c kd) = natV i) ↔ (elder N c kd = i) := ⟨fun z => by injection z with z; exact Int.ofNat.inj z, fun z => by rw [z]⟩
            simp only [this]
          rw [edec]
          refine ite2 (fun h => ?_) fun h => ?_
          · refine ⟨_, rfl, _, rfl, td, _, rfl, by
              have z := DGet.k (k := nk kd) (hS _ _ gp)
              rw [ev] at z
              exact z, Nat.zero_le _, fun q9 hq9 => ?_⟩
            have S9 := same_upd (o := .tup []) hq9
            have hnm : ∀ n ∈ namesT (R kd), NameOk n := fun n hn => by
              obtain ⟨j', _, hj', _⟩ := W.names G _ kd hlt (Nat.le_refl _) n hn
              exact G.nameOk n (mem_names.mpr ⟨j', hj'⟩)
            have hht := (W.full G _ kd hlt (Nat.le_refl _)).2
            refine ⟨encT (R kd), .tuple [], .inl (dv8.up (Same.tk S9)), .inl (.tup upd_same .nil), shaped_encT hnm (by omega), by decide, ?_⟩
            refine ⟨_, rfl, ?_⟩
            have e9 : (if true = true then !PyData.eqv (encT (R kd)) (.tuple []) else PyData.eqv (encT (R kd)) (.tuple [])) = !isNil (R kd) := by rw [if_pos rfl, eqv_nil]
            rw [e9]
            cases hn : isNil (R kd) with
            | true =>
              refine iteF (hKf ?_ _ S9)
              show (decide (elder N c kd = i) && !isNil (R kd)) = false
              rw [hn]
              simp
            | false =>
              refine iteT ⟨_, rfl, _, rfl, td, y', rfl, by
                have z := DGet.k (k := nk kd) (S9 _ _ (hS _ _ gp))
                rw [ev] at z
                exact z, ?_⟩
              have z := hKt (by
                show (decide (elder N c kd = i) && !isNil (R kd)) = true
                rw [hn, h]
                rfl) _ S9
              have z : Kt ((valV tkv (nk kd)).getD .non) _ := z
              rw [ev] at z
              exact z
          · refine hKf ?_ _ (Same.refl' _)
            show (decide (elder N c kd = i) && !isNil (R kd)) = false
            have : decide (elder N c kd = i) = false := by simpa using h
            rw [this]
            rfl
        · have hl7 := hl7.trans (congrArg (fun z => some (HO.lst z)) (kept_kids (fun k => decide (elder N c k = i) && !isNil (R k)) (fun k => (valV tkv (nk k)).getD .non) (kidsAt N i)))
          refine ⟨D7, _, rfl, hl7, fun p8 hp8 => ?_⟩
          have S8 := Same.trans' S6 (Same.trans' hS7 (same_upd (o := .tup (((kidsAt N i).filter fun k => decide (elder N c k = i) && !isNil (R k)).map fun k => (valV tkv (nk k)).getD .non)) hp8))
          have z := rest (H6 := upd H7 p8 (.tup (((kidsAt N i).filter fun k => decide (elder N c k = i) && !isNil (R k)).map fun k => (valV tkv (nk k)).getD .non))) (y := .ref p8) S8 (by
            rw [W.inner i hin hnl]
            refine .tup upd_same ?_
            have go : ∀ l : List Nat, (∀ k ∈ l, k ∈ kidsAt N i) → DTs (upd H7 p8 (.tup (((kidsAt N i).filter fun k => decide (elder N c k = i) && !isNil (R k)).map fun k => (valV tkv (nk k)).getD .non))) (l.map fun k => (valV tkv (nk k)).getD .non) (encTs (l.map R)) := by
              intro l
              induction l with
              | nil => intro _; exact .nil
              | cons k l ih =>
                intro hl
                have hk := hl k (by simp)
                have hdn := G.down i k hk
                obtain ⟨y', ev, dv⟩ := g4 k (by omega) (G.lt i k hk)
                refine .cons ?_ (ih fun k' hk' => hl k' (by simp [hk']))
                show DT _ ((valV tkv (nk k)).getD .non) (encT (R k))
                rw [ev]
                exact dv.up (Same.tk S8)
            exact go _ fun k hk => (List.mem_filter.mp hk).1)
          exact ⟨_, rfl, _, rfl, td, _, rfl, DPut.k (k := nk i) (S8 _ _ g1) (smallT (by omega)), ⟨_, _, _, _, _, _, rfl⟩, z.1, z.2⟩
    · subst es
      have tD : TD H5 0 := by
        have : N.length - xs.length = 0 := by omega
        rw [this] at tD
        exact tD
      obtain ⟨tkv, g1, g2, g3, g4⟩ := tD
      obtain ⟨y, ev, dv⟩ := g4 0 (Nat.le_refl _) h1
      have S05 := Same.trans' S03 S5
      have hnm : ∀ n ∈ namesT (R 0), NameOk n := fun n hn => G.nameOk n ((W.all El G).mp hn)
      have hnd := W.nodup El G _ 0 h1 (Nat.le_refl _)
      have hfl := W.full G _ 0 h1 (Nat.le_refl _)
      obtain ⟨a0, ha0⟩ := G.some_leaf
      obtain ⟨j0, hj0⟩ := mem_names.mp ha0
      obtain ⟨m0, u0⟩ := Up.top El G j0 (List.getElem?_eq_some_iff.mp hj0).1
      have hnn := (W.in El G hj0 m0 0 u0).2
      have h10 : (namesT (R 0)).length ≤ 10 := Nat.le_trans (nodup_le hnd fun x hx => (W.all El G).mp hx) G.few
      refine ⟨_, rfl, td, y, rfl, by
        have z := DGet.k (k := nk 0) g1
        rw [ev] at z
        exact z, y, R 0, rfl, dv, hfl.1 hnn, hnm, hnd, h10, by omega, fun H6 v' t S6 dt o ok => q _ v' t R (Same.trans' S05 S6) dt W o ok⟩
end
end JT
/-! S2: shown. -/
namespace JT
open PySem PySem.Spec PyProof.Rows L2 PySem.W
abbrev s_shown : Stmt := topS 55
abbrev n_shown : List Str := ["net", "trees", "found", "choice", "tree"]
theorem sc_shown : FnScope n_shown ["net"] (defScope s_shown) :=
  ⟨rfl, rfl, rfl, by decide +kernel, rfl, by decide +kernel, by decide +kernel⟩
section
variable {P : Program} {w : World} {K : PySem.W.Frag} {mg : Str → Option Value} {base : Heap}
/-- y: a tree and its choice -/
def ShownAt (H : Hp) (N : Net) (y : V) : Prop := ∃ q v u t c R, y = .ref q ∧ H q = some (.tup [v, u]) ∧ DT H v (encT t) ∧ DT H u (encC c) ∧ ChOk N c ∧ Raw N (elder N c) R ∧ Ord (R 0) t ∧ TOk t
theorem ShownAt.up {H H' : Hp} {N : Net} {y : V} (h : ShownAt H N y) (k : TK H H') : ShownAt H' N y := by
  obtain ⟨q, v, u, t, c, R, e1, e2, e3, e4, e5⟩ := h
  exact ⟨q, v, u, t, c, R, e1, k _ _ e2 (.inl ⟨_, rfl⟩), e3.up k, e4.up k, e5⟩
def spShown : Sp := fun vs H Q _ => ∃ v N, vs = [v] ∧ DT H v (encN N) ∧ Good N ∧ N.length ≤ 39 ∧ ∀ H' p ys, Same H H' → H' p = some (.lst ys) → (∀ y ∈ ys, ShownAt H' N y) → Q (.ref p) H'
theorem shaped_trees {ts : List Tree} (h : ∀ t ∈ ts, TOk t ∧ hT t ≤ 39 ∧ ∀ n ∈ namesT t, NameOk n) : SeqAt.shaped (.list (encTs ts)) = true := by
  have h1 : PyData.canLayAll0 (encTs ts) = true := canLay_encTs ts fun n hn => by
    rw [namesTs_flat] at hn
    obtain ⟨t, ht, hn⟩ := List.mem_flatMap.mp hn
    exact (h t ht).2.2 n hn
  have h2 : PyData.depthAll (encTs ts) ≤ 39 := by
    rw [depth_encTs]
    exact hTs_max fun t ht => (h t ht).2.1
  show (PyData.canLayAll0 (encTs ts) && decide (PyData.depthAll (encTs ts) + 1 ≤ 64)) = true
  rw [h1]
  simp
  omega
mutual
theorem TOk.nameOk : ∀ (t : Tree), TOk t → ∀ n ∈ namesT t, NameOk n
  | .leaf s, h, n, hn => by
    have : n = s := by simpa [namesT] using hn
    rw [this]
    exact h
  | .node ts, h, n, hn => TOks.nameOk ts h.2.2 n hn
theorem TOks.nameOk : ∀ (ts : List Tree), TOks ts → ∀ n ∈ namesTs ts, NameOk n
  | [], _, n, hn => by cases hn
  | t :: ts, h, n, hn => by
    rcases List.mem_append.mp (show n ∈ namesT t ++ namesTs ts from hn) with hn | hn
    · exact TOk.nameOk t h.1 n hn
    · exact TOks.nameOk ts h.2 n hn
end
theorem c_shown (T : Top mg) (D : Def K mg "shown" "shown" s_shown) (C_choices_of : Cal P w K mg base 2 "choices_of" spChoices) (C_shown_by : Cal P w K mg base 46 "shown_by" spShownBy) : Cal P w K mg base 47 "shown" spShown := by
  have C_choices_of := C_choices_of.mono (show 2 ≤ 46 by decide)
  refine D.cal sc_shown (fun _ _ _ _ _ _ us hl => match us, hl with | [_], _ => rfl) (fun vs H Q E h => ?_) fun f cdv A outer s H vs Q E hr hsp => ?_
  · obtain ⟨_, _, rfl, _⟩ := h; rfl
  have hu65 := hu65_of hr
  refine ⟨_, (pss_cons (ps_set (i := 1) sc_shown.nd rfl (Or.inl rfl) (pe_lst pa_nil))
    (pss_cons (ps_set (i := 2) sc_shown.nd rfl (Or.inl rfl) (pe_lst pa_nil))
    (pss_cons (ps_for PassesOwn.never rfl (pi_listK K (pe_f C_choices_of hr rfl (pa_cons (pv 0) pa_nil))) (pg_name (i := 3) sc_shown.nd rfl (Or.inl rfl))
    (pss_cons (ps_set (i := 4) sc_shown.nd rfl (Or.inl rfl) (pe_f C_shown_by hr rfl (pa_cons (pv 0) (pa_cons (pv 3) pa_nil))))
    (pss_one (ps_if (pt_cmpR (nind hu65) (pv 4) (pv 1) (by rfl)) (pss_cons (ps_expr (pe_ml PySem.F.slot_list_append PySem.F.type_list_append mt_append (pv 1) (pa_cons (pv 4) pa_nil)))
    (pss_one (ps_expr (pe_ml PySem.F.slot_list_append PySem.F.type_list_append mt_append (pv 2) (pa_cons (pe_tup (pa_cons (pv 4) (pa_cons (pv 3) pa_nil))) pa_nil))))) pss_nil))))
    (pss_one (ps_ret (pv 2)))))), ?_⟩
  obtain ⟨v, N, rfl, hd, G, h39, q⟩ := hsp
  have h6 := G.jfew
  refine ⟨Nat.zero_le _, fun tl htl => ⟨Nat.zero_le _, fun fl hfl => ?_⟩⟩
  have S0 : Same H (upd (upd H tl (.lst [])) fl (.lst [])) := Same.trans' (same_upd htl) (same_upd hfl)
  have ntf : tl ≠ fl := fun z => by rw [← z, upd_same] at hfl; cases hfl
  have htl0 : upd (upd H tl (.lst [])) fl (.lst []) tl = some (.lst []) := by rw [upd_ne ntf, upd_same]
  have hfl0 : upd (upd H tl (.lst [])) fl (.lst []) fl = some (.lst []) := upd_same
  have fl0 : H fl = none := by rw [upd_ne (Ne.symm ntf)] at hfl; exact hfl
  generalize upd (upd H tl (.lst [])) fl (.lst []) = H0 at S0 htl0 hfl0 ⊢
  refine ⟨_, rfl, v, N, rfl, hd.up (Same.tk S0), by omega, h6, fun H1 cl xs S1 hcl hxs => ⟨cl, rfl, ⟨_, sl_at hcl⟩, ?_⟩⟩
  have hbl := bits_small h6
  have hxl : xs.length = (allBits (joins N).length).length := by rw [hxs.length, List.length_map]
  have ncl : cl ≠ tl ∧ cl ≠ fl := by
    refine ⟨fun z => ?_, fun z => ?_⟩
    · have := S1 _ _ htl0
      rw [← z, hcl] at this
      have e : xs = [] := by injection this with this; injection this
      rw [e, allBits_len] at hxl
      have := Nat.pow_pos (n := (joins N).length) (show 0 < 2 by decide)
      simp at hxl
      omega
    · have := S1 _ _ hfl0
      rw [← z, hcl] at this
      have e : xs = [] := by injection this with this; injection this
      rw [e, allBits_len] at hxl
      have := Nat.pow_pos (n := (joins N).length) (show 0 < 2 by decide)
      simp at hxl
      omega
  refine for_gen (n := xs.length) (fun i σ H2 => (∃ s3 s4, σ = [some v, some (.ref tl), some (.ref fl), s3, s4]) ∧ (∀ b o, b ≠ tl → b ≠ fl → H1 b = some o → H2 b = some o) ∧ ∃ ts tvs ys, H2 tl = some (.lst tvs) ∧ DTs H2 tvs (encTs ts) ∧ ts.length ≤ i ∧ (∀ t ∈ ts, TOk t ∧ hT t ≤ 39 ∧ ∀ n ∈ namesT t, NameOk n) ∧ H2 fl = some (.lst ys) ∧ ys.length ≤ i ∧ ∀ y ∈ ys, ShownAt H2 N y)
    ⟨⟨_, _, rfl⟩, fun _ _ _ _ h => h, [], [], [], S1 _ _ htl0, .nil, Nat.le_refl _, by simp, S1 _ _ hfl0, Nat.le_refl _, by simp⟩ (fun i σ H2 hi ⟨_, B, _⟩ => go_lst (B _ _ ncl.1 ncl.2 hcl) hi) (fun σ H2 ⟨_, B, _⟩ => st_lst (B _ _ ncl.1 ncl.2 hcl) (Nat.le_refl _)) (fun i σ H2 x H3 hi ⟨⟨s3, s4, es⟩, B, ts, tvs, ys, ht2, hts, htl2, hok, hf2, hyl, hys⟩ hy => ?_) fun σ H2 ⟨⟨s3, s4, es⟩, B, ts, tvs, ys, ht2, hts, htl2, hok, hf2, hyl, hys⟩ => ?_
  · subst es
    obtain ⟨rfl, hx⟩ := hy
    have hx := hx _ (sl_at (B _ _ ncl.1 ncl.2 hcl))
    obtain ⟨dd, ed, hdx⟩ := hxs.get hx
    rw [List.getElem?_map] at ed
    obtain ⟨c, ec, rfl⟩ := Option.map_eq_some_iff.mp ed
    have hcm := mem_allBits.mp (List.mem_of_getElem? ec)
    have C : ChOk N c := ⟨hcm.1, hcm.2⟩
    have tkB : TK H1 H3 := fun b u e t => B b u (fun z => by
      subst z
      rw [S1 _ _ htl0] at e
      cases e
      exact no_lst t) (fun z => by
      subst z
      rw [S1 _ _ hfl0] at e
      cases e
      exact no_lst t) e
    have hd3 : DT H3 v (encN N) := hd.up (TK.trans (Same.tk (Same.trans' S0 S1)) tkB)
    refine ⟨_, rfl, _, rfl, v, x, N, c, rfl, hd3, hdx.up tkB, G, C, h39, fun H4 v' t R S4 dt W o ok => ?_⟩
    have hx4 := (hdx.up tkB).up (Same.tk S4)
    have hnm := TOk.nameOk t ok
    have hht : hT t ≤ 39 := by
      have := TOk.height t ok
      have pn := (Ord.names _ _ o).length_eq
      have nd := W.nodup (elder_ok G.toLoose C) G _ 0 G.pos (Nat.le_refl _)
      have l10 := nodup_le nd fun x hx => (W.all (elder_ok G.toLoose C) G).mp hx
      have := G.few
      omega
    refine ⟨_, rfl, _, rfl, encT t, tl, tvs, encTs ts, dt, rfl, S4 _ _ ht2, hts.up (Same.tk S4), shaped_encT hnm (by omega), shaped_trees hok, _, rfl, ite2 (fun _ => ?_) fun _ => ?_⟩
    · refine ⟨_, rfl, ⟨tl, _, rfl, S4 _ _ ht2⟩, _, rfl, tl, tvs, v', rfl, rfl, S4 _ _ ht2, smallT (by have := hts.length; rw [encTs_length] at this; omega), ?_⟩
      have hf5 : upd H4 tl (.lst (tvs ++ [v'])) fl = some (.lst ys) := by rw [upd_ne (Ne.symm ntf)]; exact S4 _ _ hf2
      have tk5 : TK H4 (upd H4 tl (.lst (tvs ++ [v']))) := tk_set (S4 _ _ ht2) no_lst
      have ht5 : upd H4 tl (.lst (tvs ++ [v'])) tl = some (.lst (tvs ++ [v'])) := upd_same
      have B5 : ∀ b o, b ≠ tl → b ≠ fl → H1 b = some o → upd H4 tl (.lst (tvs ++ [v'])) b = some o := fun b o h1 h2 e => by
        rw [upd_ne h1]
        exact S4 _ _ (B b o h1 h2 e)
      generalize upd H4 tl (.lst (tvs ++ [v'])) = H5 at hf5 tk5 ht5 B5 ⊢
      refine ⟨_, rfl, ⟨fl, _, rfl, hf5⟩, _, rfl, _, rfl, small (show 2 ≤ 10000 by decide), fun rr hrr => ?_⟩
      have S6 := same_upd (o := .tup [v', x]) hrr
      have hrr' : upd H5 rr (.tup [v', x]) rr = some (.tup [v', x]) := upd_same
      have nrf : rr ≠ fl := fun z => by rw [z, hf5] at hrr; cases hrr
      have nrt : rr ≠ tl := fun z => by rw [z, ht5] at hrr; cases hrr
      generalize upd H5 rr (.tup [v', x]) = H6 at S6 hrr' ⊢
      have tk7 : TK H6 (upd H6 fl (.lst (ys ++ [.ref rr]))) := tk_set (S6 _ _ hf5) no_lst
      have tk47 : TK H4 (upd H6 fl (.lst (ys ++ [.ref rr]))) := TK.trans tk5 (TK.trans (Same.tk S6) tk7)
      refine ⟨fl, ys, .ref rr, rfl, rfl, S6 _ _ hf5, smallT (by omega), ⟨_, _, rfl⟩, fun b o h1 h2 e => ?_, ts ++ [t], tvs ++ [v'], ys ++ [.ref rr], ?_, ?_, by rw [List.length_append]; simp; omega, fun t' ht' => ?_, upd_same, by rw [List.length_append]; simp; omega, fun y hy => ?_⟩
      · rw [upd_ne h2]
        exact S6 _ _ (B5 b o h1 h2 e)
      · rw [upd_ne ntf]
        exact S6 _ _ ht5
      · have e1 : encTs (ts ++ [t]) = encTs ts ++ [encT t] := by rw [encTs_map, encTs_map, List.map_append]; rfl
        rw [e1]
        exact DTs.snoc (hts.up (TK.trans (Same.tk S4) tk47)) (dt.up tk47)
      · rcases List.mem_append.mp ht' with h | h
        · exact hok t' h
        · rw [List.mem_singleton.mp h]
          exact ⟨ok, hht, hnm⟩
      · rcases List.mem_append.mp hy with h | h
        · exact (hys y h).up (TK.trans (Same.tk S4) tk47)
        · rw [List.mem_singleton.mp h]
          exact ⟨rr, v', x, t, c, R, rfl, tk7 _ _ hrr' (.inl ⟨_, rfl⟩), dt.up tk47, hx4.up tk47, C, W, o, ok⟩
    · refine ⟨⟨_, _, rfl⟩, fun b o h1 h2 e => S4 _ _ (B b o h1 h2 e), ts, tvs, ys, S4 _ _ ht2, hts.up (Same.tk S4), by omega, hok, S4 _ _ hf2, by omega, fun y hy => (hys y hy).up (Same.tk S4)⟩
  · subst es
    refine ⟨_, rfl, q _ fl ys (fun b o e => ?_) hf2 hys⟩
    exact B b o (fun z => by rw [z, htl] at e; cases e) (fun z => by rw [z, fl0] at e; cases e) (S1 _ _ (S0 _ _ e))
end
end JT
/-! A1: the pen. -/
namespace JT
open PySem PySem.Spec PyProof.Rows L2 PySem.W
abbrev s__law_pen : Stmt := topS 57
abbrev n__law_pen : List Str := ["_law_script"]
theorem sc__law_pen : FnScope n__law_pen ["_law_script"] (defScope s__law_pen) :=
  ⟨rfl, rfl, rfl, by decide +kernel, rfl, by decide +kernel, by decide +kernel⟩
abbrev s__law_draw : Stmt := topS 58
abbrev n__law_draw : List Str := ["_law_pen_here", "_law_many", "_law_found", "_law_at", "_law_cell", "_law_whole", "_law_one", "_law_two"]
theorem sc__law_draw : FnScope n__law_draw ["_law_pen_here", "_law_many"] (defScope s__law_draw) :=
  ⟨rfl, rfl, rfl, by decide +kernel, rfl, by decide +kernel, by decide +kernel⟩
section
variable {P : Program} {w : World} {K : PySem.W.Frag} {mg : Str → Option Value} {base : Heap}
def penKv (q : Addr) (a l : Int) : List (Key × V) := [(.inr "cells", .ref q), (.inr "at", .int a), (.inr "left", .int l)]
section
variable {q : Addr} {a l : Int} {v : V}
theorem pen_cells : valV (penKv q a l) (.inr "cells") = some (.ref q) := valV_pos rfl
theorem k_ca : ¬ (Sum.inr ("cells" : Str) : Key) = Sum.inr ("at" : Str) := by decide
theorem k_cl : ¬ (Sum.inr ("cells" : Str) : Key) = Sum.inr ("left" : Str) := by decide
theorem k_al : ¬ (Sum.inr ("at" : Str) : Key) = Sum.inr ("left" : Str) := by decide
theorem pen_at : valV (penKv q a l) (.inr "at") = some (.int a) := by rw [penKv, valV_neg k_ca, valV_pos rfl]
theorem pen_left : valV (penKv q a l) (.inr "left") = some (.int l) := by rw [penKv, valV_neg k_cl, valV_neg k_al, valV_pos rfl]
theorem pen_put_at (x : Int) : putK (penKv q a l) (.inr "at") (.int x) = penKv q x l := by
  unfold putK
  rw [valV_any, pen_at]
  rfl
theorem pen_put_left (x : Int) : putK (penKv q a l) (.inr "left") (.int x) = penKv q a x := by
  unfold putK
  rw [valV_any, pen_left]
  rfl
end
/-- a pen at p, at most n cells drawn -/
def PenAt (H : Hp) (p q : Addr) (n : Nat) : Prop := ∃ (a l : Int) (cs : List Int), H p = some (.dK (penKv q a l)) ∧ H q = some (.lst (cs.map V.int)) ∧ 0 ≤ a ∧ a ≤ n ∧ 0 ≤ l ∧ cs.length ≤ 63
def spPen (K : PySem.W.Frag) : Sp := fun vs H Q _ => ∃ (a : Addr) (ns : List Int), vs = [.ref a] ∧ SqL K H a (ns.map V.int) ∧ ∀ H' p pq, Same H H' → H p = none → PenAt H' p pq 0 → Q (.ref p) H'
theorem c__law_pen (T : Top mg) (D : Def K mg "_law_pen" "_law_pen" s__law_pen) : Cal P w K mg base 1 "_law_pen" (spPen K) := by
  refine D.cal sc__law_pen (fun _ _ _ _ _ _ us hl => match us, hl with | [_], _ => rfl) (fun vs H Q E h => ?_) fun f cdv A outer s H vs Q E hr hsp => ?_
  · obtain ⟨_, _, rfl, _⟩ := h; rfl
  have hu := hu_of hr
  refine ⟨_, (pss_one (ps_ret (pe_disp (pps_cons pe_str (pe_callTy lstOf rfl T.list (by decide +kernel) (pa_cons (pe_slice sl_list (pv 0) po_none (po_some pe_int)) pa_nil)) (pps_cons pe_str pe_int (pps_cons pe_str pe_int pps_nil))) (by rfl) (by rfl) (fun z => by cases z) (by decide)))), ?_⟩
  obtain ⟨a, ns, rfl, ha, q⟩ := hsp
  refine fun d hd => ?_
  have S1 := same_upd (o := .dK []) hd
  have hd1 : upd H d (.dK []) d = some (.dK []) := upd_same
  have ha1 : SqL K (upd H d (.dK [])) a (ns.map V.int) := by
    rcases ha with (h | ⟨o, h⟩) | h
    · exact .inl (.inl (S1 _ _ h))
    · exact .inl (.inr ⟨o, S1 _ _ h⟩)
    · exact .inr h
  generalize upd H d (.dK []) = H1 at S1 hd1 ha1 ⊢
  refine ⟨_, rfl, 63, rfl, a, _, rfl, ha1, fun p np => ⟨p, _, rfl, .inl upd_same, fun l hl => ?_⟩⟩
  have S2 := same_upd (o := .lst (cutV (ns.map V.int) none (some 63))) np
  have S3 := same_upd (o := .lst (cutV (ns.map V.int) none (some 63))) hl
  have S13 := Same.trans' S2 S3
  have hl3 : upd (upd H1 p (.lst (cutV (ns.map V.int) none (some 63)))) l (.lst (cutV (ns.map V.int) none (some 63))) l = some (.lst ((ns.take 63).map V.int)) := by
    rw [upd_same, show (some (63 : Int)) = some ((63 : Nat) : Int) from rfl, cut_to, List.map_take]
  have hd3 := S13 _ _ hd1
  generalize upd (upd H1 p (.lst (cutV (ns.map V.int) none (some 63)))) l (.lst (cutV (ns.map V.int) none (some 63))) = H3 at S13 hl3 hd3 ⊢
  refine ⟨hd3, penKv l 0 0, rfl, by show 3 ≤ 15; decide, ?_⟩
  have nld : l ≠ d := fun z => by rw [z, hd3] at hl3; cases hl3
  refine q _ d l (fun b o e => ?_) hd ⟨0, 0, ns.take 63, ?_, by rw [upd_ne nld]; exact hl3, by decide, by decide, by decide, by rw [List.length_take]; omega⟩
  · rw [upd_ne (ne_of_none e hd)]
    exact S13 _ _ (S1 _ _ e)
  · rw [upd_same]
    rfl
theorem pow_b1 {a : Int} (h0 : 0 ≤ a) (h1 : a ≤ 100000) (x : Int) : (x.fmod 2147483549 + 73009 * a + 71).natAbs < 2 ^ 64 := by
  have r1 := Int.fmod_nonneg_of_pos x (show (0 : Int) < 2147483549 by decide)
  have r2 := Int.fmod_lt_of_pos x (show (0 : Int) < 2147483549 by decide)
  omega
theorem pow_b0 {a : Int} (h0 : 0 ≤ a) (h1 : a ≤ 100000) : -(2 ^ 64) < a + 65557 ∧ a + 65557 < 2 ^ 64 := by omega
theorem pow_b3 {a : Int} (h0 : 0 ≤ a) (h1 : a ≤ 100000) : -(2 ^ 64) < a ∧ a < 2 ^ 64 := by omega
theorem pow_b2 {a : Int} (h0 : 0 ≤ a) (h1 : a ≤ 100000) (x : Int) : (x.fmod 2147483647 * (a + 65557) + 84991 * a * a).natAbs < 2 ^ 64 := by
  have r1 := Int.fmod_nonneg_of_pos x (show (0 : Int) < 2147483647 by decide)
  have r2 := Int.fmod_lt_of_pos x (show (0 : Int) < 2147483647 by decide)
  have u1 : x.fmod 2147483647 * (a + 65557) ≤ 2147483647 * 165557 := Int.mul_le_mul (by omega) (by omega) (by omega) (by decide)
  have u0 : 0 ≤ x.fmod 2147483647 * (a + 65557) := Int.mul_nonneg r1 (by omega)
  have v1 : 84991 * a * a ≤ (84991 * 100000) * 100000 := Int.mul_le_mul (by omega) h1 h0 (by decide)
  have v0 : 0 ≤ 84991 * a * a := Int.mul_nonneg (by omega) h0
  omega
def spDraw : Sp := fun vs H Q _ => ∃ p pq n, ∃ m : Int, vs = [.ref p, .int m] ∧ PenAt H p pq n ∧ n ≤ 100000 ∧ 1 ≤ m ∧ m ≤ 100000 ∧ ∀ H' r, But p H H' → PenAt H' p pq (n + 1) → 0 ≤ r → r < m → Q (.int r) H'
theorem c__law_draw (T : Top mg) (D : Def K mg "_law_draw" "_law_draw" s__law_draw) : Cal P w K mg base 1 "_law_draw" spDraw := by
  refine D.cal sc__law_draw (fun _ _ _ _ _ _ us hl => match us, hl with | [_, _], _ => rfl) (fun vs H Q E h => ?_) fun f cdv A outer s H vs Q E hr hsp => ?_
  · obtain ⟨_, _, _, _, rfl, _⟩ := h; rfl
  have hu := hu_of hr
  have hu64 := hu64_of hr
  refine ⟨_, (pss_cons (ps_if (pt_cmpR op_gt (pe_dget hu (pv 0) pe_str (fun _ _ => rfl)) pe_int (nomark _)) (pss_cons (ps_set (i := 2) sc__law_draw.nd rfl (Or.inl rfl) (pe_op op_modN (pe_dget hu (pv 0) pe_str (fun _ _ => rfl)) (pv 1)))
    (pss_cons (ps_dput hu (pv 0) pe_str (pe_op op_fdivN (pe_dget hu (pv 0) pe_str (fun _ _ => rfl)) (pv 1)) rfl)
    (pss_one (ps_ret (pv 2))))) pss_nil)
    (pss_cons (ps_set (i := 3) sc__law_draw.nd rfl (Or.inl rfl) (pe_dget hu (pv 0) pe_str (fun _ _ => rfl)))
    (pss_cons (ps_dput hu (pv 0) pe_str (pe_op op_add (pv 3) pe_int) rfl)
    (pss_cons (ps_set (i := 4) sc__law_draw.nd rfl (Or.inl rfl) (pe_op op_add (pe_op op_mul pe_int (pv 3)) pe_int))
    (pss_cons (ps_if (pt_cmpR (ned hu64) (pe_dget hu (pv 0) pe_str (fun _ _ => rfl)) (pe_lst pa_nil) (nomark _)) (pss_one (ps_set (i := 4) sc__law_draw.nd rfl (Or.inl rfl) (pe_ix ixl (pe_dget hu (pv 0) pe_str (fun _ _ => rfl)) (pe_op op_modN (pv 3) (pe_callB lenq rfl T.len PySem.boot_len (pa_cons (pe_dget hu (pv 0) pe_str (fun _ _ => rfl)) pa_nil))) (fun _ _ => rfl)))) pss_nil)
    (pss_cons (ps_if (PW.pt (pw_and (pt_cmpR op_lt (pv 3) (pe_callB lenq rfl T.len PySem.boot_len (pa_cons (pe_dget hu (pv 0) pe_str (fun _ _ => rfl)) pa_nil)) (nomark _)) (pw_and1 (pt_cmpR op_ge (pe_callB call_abs rfl T.abs (by decide +kernel) (pa_cons (pv 4) pa_nil)) (pe_op op_pow pe_int pe_int) (nomark _))))) (pss_cons (ps_set (i := 5) sc__law_draw.nd rfl (Or.inl rfl) (pe_op op_add (pe_op op_mul pe_int (pe_callB call_abs rfl T.abs (by decide +kernel) (pa_cons (pv 4) pa_nil))) (pe_callTy call_int1 rfl T.int (by decide +kernel) (pa_cons (pe_cmpR op_lt (pv 4) pe_int (nomark _)) pa_nil))))
    (pss_cons (ps_dput hu (pv 0) pe_str (pe_op op_fdivN (pv 5) (pv 1)) rfl)
    (pss_one (ps_ret (pe_op op_modN (pv 5) (pv 1)))))) pss_nil)
    (pss_cons (ps_set (i := 6) sc__law_draw.nd rfl (Or.inl rfl) (pe_op op_modN (pe_op op_pow (pe_op op_add (pe_op op_add (pe_op op_modN (pv 4) pe_int) (pe_op op_mul pe_int (pv 3))) pe_int) pe_int) pe_int))
    (pss_cons (ps_set (i := 7) sc__law_draw.nd rfl (Or.inl rfl) (pe_op op_modN (pe_op op_pow (pe_op op_add (pe_op op_mul (pv 6) (pe_op op_add (pv 3) pe_int)) (pe_op op_mul (pe_op op_mul pe_int (pv 3)) (pv 3))) pe_int) pe_int))
    (pss_one (ps_ret (pe_op op_modN (pe_op op_fdivN (pv 7) pe_int) (pv 1)))))))))))), ?_⟩
  obtain ⟨p, cq, n, m, rfl, hp, hn, hm1, hm2, q⟩ := hsp
  obtain ⟨a, l, cs, h1, h2, ha0, han, hl0, hcl⟩ := hp
  have ncp : cq ≠ p := fun z => by rw [z, h1] at h2; cases h2
  have gl : DGet H p (kV (.inr "left")) (some (.int l)) := by
    have z := DGet.k (k := .inr "left") h1
    rw [pen_left] at z
    exact z
  have ga : DGet H p (kV (.inr "at")) (some (.int a)) := by
    have z := DGet.k (k := .inr "at") h1
    rw [pen_at] at z
    exact z
  -- the state behind: a and l new, the rest as it was
  have fin : ∀ {H' : Hp} {a' l' : Int}, Same H H' → 0 ≤ a' → a' ≤ n + 1 → 0 ≤ l' → But p H (upd H' p (.dK (penKv cq a' l'))) ∧ PenAt (upd H' p (.dK (penKv cq a' l'))) p cq (n + 1) := fun S x1 x2 x3 => by
    refine ⟨fun b o hb e => by rw [upd_ne hb]; exact S _ _ e, _, _, cs, upd_same, by rw [upd_ne ncp]; exact S _ _ h2, x1, by push_cast; exact x2, x3, hcl⟩
  refine ⟨_, rfl, p, _, rfl, gl, l, 0, rfl, rfl, _, rfl, ite2 (fun hl => ?_) fun hl => ?_⟩
  · have hl := of_decide_eq_true hl
    refine ⟨_, rfl, p, _, rfl, gl, _, rfl, l, m, rfl, rfl, by omega, ?_⟩
    refine ⟨_, rfl, p, _, rfl, gl, _, rfl, l, m, rfl, rfl, ⟨by omega, by omega⟩, _, rfl, p, _, rfl, DPut.k (k := .inr "left") h1 (show 3 < sizeLine by decide), ?_⟩
    rw [pen_put_left]
    have z := fin (Same.refl' H) ha0 (show a ≤ n + 1 by omega) (Int.fdiv_nonneg hl0 (show 0 ≤ m by omega))
    exact ⟨_, rfl, q _ _ z.1 z.2 (Int.fmod_nonneg_of_pos _ (by omega)) (Int.fmod_lt_of_pos _ (by omega))⟩
  · have gc : DGet (upd H p (.dK (penKv cq (a + 1) l))) p (kV (.inr "cells")) (some (.ref cq)) := by
      have z := DGet.k (H := upd H p (.dK (penKv cq (a + 1) l))) (k := .inr "cells") upd_same
      rw [pen_cells] at z
      exact z
    refine ⟨_, rfl, p, _, rfl, ga, _, rfl, a, 1, rfl, rfl, _, rfl, p, _, rfl, DPut.k (k := .inr "at") h1 (show 3 < sizeLine by decide), ?_⟩
    rw [pen_put_at]
    have hp1 : upd H p (.dK (penKv cq (a + 1) l)) p = some (.dK (penKv cq (a + 1) l)) := upd_same
    have hq1 : upd H p (.dK (penKv cq (a + 1) l)) cq = some (.lst (cs.map V.int)) := by rw [upd_ne ncp]; exact h2
    have B1 : But p H (upd H p (.dK (penKv cq (a + 1) l))) := fun b o hb e => by rw [upd_ne hb]; exact e
    generalize upd H p (.dK (penKv cq (a + 1) l)) = H1 at gc hp1 hq1 B1 ⊢
    have hq1b := hq1
    refine ⟨_, rfl, 2113, a, rfl, rfl, .inl ⟨by decide, by decide⟩, _, 601, rfl, rfl, ?_⟩
    refine ⟨_, rfl, p, _, rfl, gc, Nat.zero_le _, fun q1 hq1 => ⟨_, _, dq_ints ((same_upd hq1) _ _ hq1b), dq_nil upd_same, shaped_ints _, by decide, ?_⟩⟩
    have S2 := same_upd (o := .lst []) hq1
    have gc2 : DGet (upd H1 q1 (.lst [])) p (kV (.inr "cells")) (some (.ref cq)) := by
      have z := DGet.k (H := upd H1 q1 (.lst [])) (k := .inr "cells") (S2 _ _ hp1)
      rw [pen_cells] at z
      exact z
    have hp2 := S2 _ _ hp1
    have hq2 := S2 _ _ hq1b
    have B2 : But p H (upd H1 q1 (.lst [])) := fun b o hb e => S2 _ _ (B1 b o hb e)
    generalize upd H1 q1 (.lst []) = H2 at gc2 hp2 hq2 B2 ⊢
    have fin2 : ∀ {a' l' : Int}, 0 ≤ a' → a' ≤ n + 1 → 0 ≤ l' → But p H (upd H2 p (.dK (penKv cq a' l'))) ∧ PenAt (upd H2 p (.dK (penKv cq a' l'))) p cq (n + 1) := fun x1 x2 x3 => by
      refine ⟨fun b o hb e => by rw [upd_ne hb]; exact B2 _ _ hb e, _, _, cs, upd_same, by rw [upd_ne ncp]; exact hq2, x1, by push_cast; exact x2, x3, hcl⟩
    have penT : PenAt H2 p cq (n + 1) := ⟨_, _, cs, hp2, hq2, by omega, by push_cast; omega, hl0, hcl⟩
    refine ⟨_, rfl, ite2 (fun hc => ?c1) fun hc => ?c2⟩
    case' c1 =>
      have hne : cs ≠ [] := fun z => by rw [z] at hc; exact absurd hc (by decide)
      have hpos : 0 < cs.length := List.length_pos_iff.mpr hne
      have hr1 := Int.fmod_nonneg_of_pos a (show (0 : Int) < (cs.length : Int) by omega)
      have hr2 := Int.fmod_lt_of_pos a (show (0 : Int) < (cs.length : Int) by omega)
      obtain ⟨j, hj⟩ := Int.eq_ofNat_of_zero_le hr1
      have hjl : j < cs.length := by omega
      obtain ⟨x, hx⟩ : ∃ x : Int, atI (cs.map V.int) (a.fmod ((cs.map V.int).length : Int)) = some (.int x) := by
        rw [List.length_map, hj]
        exact ⟨cs[j], atI_nat (by rw [List.getElem?_map, List.getElem?_eq_getElem hjl]; rfl)⟩
      refine ⟨_, rfl, p, _, rfl, gc2, _, rfl, _, rfl, p, _, rfl, gc2, cq, _, rfl, .inl hq2, _, _, rfl, rfl, by rw [List.length_map]; omega, cq, _, _, _, rfl, rfl, hq2, hx, ?_⟩
    case' c2 =>
      generalize 2113 * a + 601 = x
    all_goals
      refine ⟨_, rfl, _, rfl, p, _, rfl, gc2, cq, _, rfl, .inl hq2, _, _, rfl, rfl, _, rfl, ?_⟩
      refine ite2 (fun _ => ⟨_, rfl, _, rfl, 10, 18, rfl, rfl, ⟨by decide, by decide, by decide⟩, _, _, rfl, rfl, _, rfl, ite2 (fun _ => ?_) fun _ => ?_⟩) fun _ => ?_
      · refine ⟨_, rfl, _, rfl, 2, _, rfl, rfl, .inl ⟨by decide, by decide⟩, _, rfl, _, _, rfl, rfl, .inr ⟨_, rfl, _, _, rfl, rfl, ?_⟩⟩
        refine ⟨_, rfl, _, rfl, _, m, rfl, rfl, ⟨by omega, by omega⟩, _, rfl, p, _, rfl, DPut.k (k := .inr "left") hp2 (show 3 < sizeLine by decide), ?_⟩
        rw [pen_put_left]
        refine ⟨_, rfl, _, rfl, _, m, rfl, rfl, by omega, ?_⟩
        have z := fun (l' : Int) (h : 0 ≤ l') => fin2 (show 0 ≤ a + 1 by omega) (show a + 1 ≤ (n : Int) + 1 by omega) h
        refine q _ _ (z _ ?_).1 (z _ ?_).2 (Int.fmod_nonneg_of_pos _ (by omega)) (Int.fmod_lt_of_pos _ (by omega))
        all_goals
          refine Int.fdiv_nonneg ?_ (by omega)
          split <;> split <;> omega
      all_goals
        refine ⟨_, rfl, _, _, rfl, rfl, show (2147483549 : Int) ≠ 0 by decide, _, rfl, _, _, rfl, rfl, .inl ⟨by decide, by decide⟩, _, _, rfl, rfl, _, _, rfl, rfl, _, _, rfl, rfl, ⟨by decide, by decide, pow_b1 ha0 (by omega) _⟩, _, _, rfl, rfl, show (2147483647 : Int) ≠ 0 by decide, ?_⟩
        refine ⟨_, rfl, _, rfl, _, _, rfl, rfl, _, _, rfl, rfl, .inr (pow_b0 ha0 (by omega)), _, rfl, _, _, rfl, rfl, .inl ⟨by decide, by decide⟩, _, rfl, _, _, rfl, rfl, .inr (pow_b3 ha0 (by omega)), _, _, rfl, rfl, _, _, rfl, rfl, ⟨by decide, by decide, pow_b2 ha0 (by omega) _⟩, _, _, rfl, rfl, show (2147483423 : Int) ≠ 0 by decide, ?_⟩
        exact ⟨_, rfl, _, _, rfl, rfl, ⟨by decide, by decide⟩, _, rfl, _, m, rfl, rfl, by omega, q _ _ B2 penT (Int.fmod_nonneg_of_pos _ (by omega)) (Int.fmod_lt_of_pos _ (by omega))⟩
end
end JT
/-! A2: names. -/
namespace JT
open PySem PySem.Spec PyProof.Rows L2 PySem.W
abbrev s__law_names : Stmt := topS 59
abbrev n__law_names : List Str := ["_law_pen_here", "_law_many", "_law_some", "_law_k"]
theorem sc__law_names : FnScope n__law_names ["_law_pen_here", "_law_many"] (defScope s__law_names) :=
  ⟨rfl, rfl, rfl, by decide +kernel, rfl, by decide +kernel, by decide +kernel⟩
section
variable {P : Program} {w : World} {K : PySem.W.Frag} {mg : Str → Option Value} {base : Heap}
def names13 : List Str := ["a", "aa", "ab", "b", "ba", "c", "d", "e", "zz", "zzzzzzzz", "m", "ma", "n"]
theorem But.rfl' {p : Addr} {H : Hp} : But p H H := fun _ _ _ e => e
theorem But.trans' {p : Addr} {A B C : Hp} (h : But p A B) (g : But p B C) : But p A C := fun b o n e => g b o n (h b o n e)
theorem But.of {p : Addr} {A B : Hp} (h : Same A B) : But p A B := fun b o _ e => h b o e
theorem PenAt.up {H H' : Hp} {p q : Addr} {n : Nat} (h : PenAt H p q n) (S : Same H H') : PenAt H' p q n := by
  obtain ⟨a, l, cs, h1, h2, h3⟩ := h
  exact ⟨a, l, cs, S _ _ h1, S _ _ h2, h3⟩
theorem PenAt.kd {H : Hp} {p q : Addr} {n : Nat} (h : PenAt H p q n) : ∃ o, H p = some (.dK o) := by
  obtain ⟨a, l, cs, h1, _⟩ := h
  exact ⟨_, h1⟩
theorem PenAt.qd {H : Hp} {p q : Addr} {n : Nat} (h : PenAt H p q n) : ∃ o, H q = some o := by
  obtain ⟨a, l, cs, h1, h2, _⟩ := h
  exact ⟨_, h2⟩
theorem PenAt.new {H : Hp} {p q b : Addr} {n : Nat} (h : PenAt H p q n) (e : H b = none) : b ≠ p ∧ b ≠ q := by
  obtain ⟨a, l, cs, h1, h2, _⟩ := h
  refine ⟨fun z => ?_, fun z => ?_⟩
  · rw [z, h1] at e
    cases e
  · rw [z, h2] at e
    cases e
theorem PenAt.set {H : Hp} {p q b : Addr} {n : Nat} {o : HO} (h : PenAt H p q n) (hb : b ≠ p ∧ b ≠ q) : PenAt (upd H b o) p q n := by
  obtain ⟨a, l, cs, h1, h2, h3⟩ := h
  exact ⟨a, l, cs, by rw [upd_ne (Ne.symm hb.1)]; exact h1, by rw [upd_ne (Ne.symm hb.2)]; exact h2, h3⟩
theorem PenAt.more {H : Hp} {p q : Addr} {n m : Nat} (h : PenAt H p q n) (l : n ≤ m) : PenAt H p q m := by
  obtain ⟨a, l', cs, h1, h2, h3, h4, h5⟩ := h
  exact ⟨a, l', cs, h1, h2, h3, by omega, h5⟩
theorem six {k n : Nat} (h : k < n) : seqIndex? (k : Int) n = some k := by
  unfold seqIndex?
  have h1 : ¬ ((k : Int) < 0) := by omega
  have h2 : (0 : Int) ≤ k ∧ (k : Int) < n := by omega
  simp [h1, h2, h]
theorem six_last {n : Nat} (h : 0 < n) : seqIndex? (-1) n = some (n - 1) := by
  unfold seqIndex?
  have h1 : ((-1 : Int) < 0) := by omega
  have h2 : (0 : Int) ≤ -1 + n ∧ -1 + (n : Int) < n := by omega
  simp only [h1, if_true, h2.1, h2.2, decide_true, Bool.and_self]
  congr 1
  omega
theorem map_erase {α β : Type} (f : α → β) : ∀ (l : List α) (k : Nat), (l.map f).eraseIdx k = (l.eraseIdx k).map f
  | [], k => by simp
  | a :: l, 0 => rfl
  | a :: l, k + 1 => by
    show f a :: (l.map f).eraseIdx k = f a :: (l.eraseIdx k).map f
    rw [map_erase f l k]
theorem erase_perm {α : Type} : ∀ {l : List α} {k : Nat} {x : α}, l[k]? = some x → (x :: l.eraseIdx k).Perm l
  | a :: l, 0, x, h => by
    have : a = x := by simpa using h
    subst this
    exact .refl _
  | a :: l, k + 1, x, h => by
    have h : l[k]? = some x := by simpa using h
    exact (List.Perm.swap a x (l.eraseIdx k)).trans ((erase_perm h).cons a)
theorem PenAt.ne {H : Hp} {p q b : Addr} {n : Nat} {xs : List V} (h : PenAt H p q n) (e : H b = some (.lst xs)) : b ≠ p := fun z => by
  obtain ⟨o, h⟩ := h.kd
  rw [z, h] at e
  cases e
def spLNames : Sp := fun vs H Q _ => ∃ (p pq : Addr) (n m : Nat), vs = [.ref p, .int m] ∧ PenAt H p pq n ∧ n + m ≤ 100000 ∧ m ≤ 12 ∧ ∀ H' l (ys : List Str), But p H H' → PenAt H' p pq (n + m) → H' l = some (.lst (ys.map V.str)) → ys.length = m → ys.Nodup → (∀ x ∈ ys, x ∈ names13) → ys.Pairwise sLt → Q (.ref l) H'
theorem c__law_names (T : Top mg) (D : Def K mg "_law_names" "_law_names" s__law_names) (C__law_draw : Cal P w K mg base 1 "_law_draw" spDraw) : Cal P w K mg base 2 "_law_names" spLNames := by
  refine D.cal sc__law_names (fun _ _ _ _ _ _ us hl => match us, hl with | [_, _], _ => rfl) (fun vs H Q E h => ?_) fun f cdv A outer s H vs Q E hr hsp => ?_
  · obtain ⟨_, _, _, _, rfl, _⟩ := h; rfl
  have hu := hu_of hr
  have hu64 := hu64_of hr
  refine ⟨_, (pss_cons (ps_set (i := 2) sc__law_names.nd rfl (Or.inr rfl) (pe_lst (pa_cons pe_str (pa_cons pe_str (pa_cons pe_str (pa_cons pe_str (pa_cons pe_str (pa_cons pe_str (pa_cons pe_str (pa_cons pe_str (pa_cons pe_str (pa_cons pe_str (pa_cons pe_str (pa_cons pe_str (pa_cons pe_str pa_nil)))))))))))))))
    (pss_one (ps_ret (pe_callB srtS rfl T.sorted (by decide +kernel) (pa_cons (pe_lc (own := [("_law_k", 3)]) (g := gName 3) (tt := tYes) rfl sc__law_names.nd (pi_range1 rfl T.range (pa_cons (pv 1) pa_nil)) (blkOk_by (own := [("_law_k", 3)]) (N := n__law_names) (sc := defScope s__law_names) (by decide +kernel)) (fun _ _ _ _ _ => (pg_name (i := 3) sc__law_names.nd rfl (Or.inl rfl))) (fun _ _ _ _ _ => pts_nil) (fun _ _ _ _ _ => (pe_ml PySem.F.slot_list_pop PySem.F.type_list_pop mt_popAt (pv 2) (pa_cons (pe_f C__law_draw hr rfl (pa_cons (pv 0) (pa_cons (pe_callB lenq rfl T.len PySem.boot_len (pa_cons (pv 2) pa_nil)) pa_nil))) pa_nil)))) pa_nil))))), ?_⟩
  obtain ⟨p, pq, n, m, rfl, hp, hnm, hm, q⟩ := hsp
  have hppq := hp
  refine ⟨by show 13 ≤ _; decide, fun l hl => ?_⟩
  have S1 := same_upd (o := .lst (names13.map V.str)) hl
  have hp1 := hp.up S1
  have hl1 : upd H l (.lst (names13.map V.str)) l = some (.lst (names13.map V.str)) := upd_same
  refine ⟨_, rfl, m, rfl, by omega, by omega, fun d hd => ?_⟩
  replace hd : upd H l (.lst (names13.map V.str)) d = none := hd
  have hd1 : upd (upd H l (.lst (names13.map V.str))) d (.lst []) d = some (.lst []) := upd_same
  have ndl : d ≠ l := fun z => by rw [z, hl1] at hd; cases hd
  have B1 : But p H (upd H l (.lst (names13.map V.str))) := But.of S1
  rw [show (m : Int).toNat = m from rfl]
  have nd13 : names13.Nodup := by decide
  have S2 := same_upd (o := .lst []) hd
  refine lc_gen (n := m) (fun i H2 => But p H H2 ∧ PenAt H2 p pq (n + i) ∧ ∃ rest xs : List Str, H2 l = some (.lst (rest.map V.str)) ∧ H2 d = some (.lst (xs.map V.str)) ∧ (xs ++ rest).Perm names13 ∧ xs.length = i) ⟨But.trans' B1 (But.of S2), hp1.up S2, names13, [], S2 _ _ hl1, hd1, .refl _, rfl⟩ (fun i H2 hi _ => hi) (fun H2 _ => Nat.le_refl _) (fun i H2 x H3 hi ⟨b2, p2, rest, xs, h2, h3, pm, hx⟩ hy => ?_) fun H2 ⟨b2, p2, rest, xs, h2, h3, pm, hx⟩ => ?_
  · obtain ⟨rfl, rfl⟩ := hy
    have hrl : rest.length = 13 - i := by
      have := pm.length_eq
      rw [List.length_append, hx] at this
      have h13 : names13.length = 13 := rfl
      omega
    refine ⟨rfl, _, rfl, ⟨l, _, rfl, h2⟩, _, rfl, _, rfl, l, _, rfl, .inl h2, ?_⟩
    refine ⟨p, pq, n + i, _, rfl, p2, by omega, by rw [List.length_map]; omega, by rw [List.length_map]; omega, fun H4 r b4 p4 r0 r1 => ?_⟩
    rw [List.length_map] at r1
    obtain ⟨k, rfl⟩ := Int.eq_ofNat_of_zero_le r0
    have hk : k < rest.length := by omega
    have h24 := b4 _ _ (p2.ne h2) h2
    have h34 := b4 _ _ (p2.ne h3) h3
    refine ⟨l, _, _, k, .str rest[k], rfl, rfl, h24, by omega, by omega, ?_, ?_, ?_⟩
    · rw [List.length_map]
      exact six hk
    · rw [List.getElem?_map, List.getElem?_eq_getElem hk]
      rfl
    · have hdn : H d = none := by rw [upd_ne ndl] at hd; exact hd
      have e1 : upd H4 l (.lst ((rest.map V.str).eraseIdx k)) d = some (.lst (xs.map V.str)) := by rw [upd_ne ndl]; exact h34
      refine ⟨_, e1, by rw [List.length_map]; exact smallT (by omega), fun b o hb e => ?_, ?_, rest.eraseIdx k, xs ++ [rest[k]], ?_, ?_, ?_, by rw [List.length_append, hx]; rfl⟩
      · have := b4 _ _ hb (b2 _ _ hb e)
        rw [upd_ne (ne_of_none e hdn), upd_ne (ne_of_none e hl)]
        exact this
      · have := (p4.set (o := .lst ((rest.map V.str).eraseIdx k)) (hp.new hl)).set (b := d) (o := .lst (xs.map V.str ++ [V.str rest[k]])) (hp1.new hd)
        exact this
      · rw [upd_ne (Ne.symm ndl), upd_same, map_erase]
      · rw [upd_same, List.map_append]
        rfl
      · have := erase_perm (List.getElem?_eq_getElem hk)
        refine List.Perm.trans ?_ pm
        rw [List.append_assoc]
        exact List.Perm.append_left _ this
  · refine ⟨d, xs, rfl, h3, by omega, fun ys p' pp so hp' => q _ _ _ (But.trans' b2 (But.of (same_upd hp'))) (p2.up (same_upd hp')) upd_same (by rw [pp.length_eq, hx]) ?_ ?_ ?_⟩
    · exact pp.nodup_iff.mpr (List.nodup_append.mp (pm.nodup_iff.mpr nd13)).1
    · exact fun x hx => pm.mem_iff.mp (List.mem_append_left _ (pp.mem_iff.mp hx))
    · exact sorted_lt so (pp.nodup_iff.mpr (List.nodup_append.mp (pm.nodup_iff.mpr nd13)).1)
end
end JT
/-! A5: a tree's rows in a dict. -/
namespace JT
open PySem PySem.Spec PyProof.Rows L2 PySem.W
abbrev s__law_rows : Stmt := topS 63
abbrev n__law_rows : List Str := ["_law_tree_here", "_law_rows_here", "_law_at", "_law_part"]
theorem sc__law_rows : FnScope n__law_rows ["_law_tree_here", "_law_rows_here"] (defScope s__law_rows) :=
  ⟨rfl, rfl, rfl, by decide +kernel, rfl, by decide +kernel, by decide +kernel⟩
section
variable {P : Program} {w : World} {K : PySem.W.Frag} {mg : Str → Option Value} {base : Heap}
/-- the row r stands in the dict as v; its list is one of X -/
def RowVal (X : Addr → Prop) (H : Hp) (v : V) : Row → Prop
  | .leaf s => v = .str s
  | .fork ks => ∃ l, v = .ref l ∧ X l ∧ H l = some (.lst (ks.map natV))
  | .join k => ∃ l, v = .ref l ∧ X l ∧ H l = some (.lst [natV k])
theorem RowVal.mono {X Y : Addr → Prop} {H H' : Hp} {v : V} {r : Row} (h : RowVal X H v r) (k : ∀ l xs, X l → H l = some (.lst xs) → Y l ∧ H' l = some (.lst xs)) : RowVal Y H' v r := by
  cases r with
  | leaf s => exact h
  | fork ks =>
    obtain ⟨l, e, x, h⟩ := h
    exact ⟨l, e, k _ _ x h⟩
  | join j =>
    obtain ⟨l, e, x, h⟩ := h
    exact ⟨l, e, k _ _ x h⟩
def spLRows (h : Nat) : Sp := fun vs H Q _ => ∃ v d t f b, vs = [v, .ref d] ∧ DT H v (encT t) ∧ hT t < h ∧ H d = some (.dK (numD f b)) ∧ b + szT t ≤ 1000 ∧
  ∀ H' f', But d H H' → H' d = some (.dK (numD f' (b + szT t))) → (∀ i, i < b → f' i = f i) → (∀ i r, (rowsT b t)[i]? = some r → RowVal (fun l => H l = none) H' (f' (b + i)) r) → Q (natV b) H'
theorem But.tkD {d : Addr} {H H' : Hp} {kvs : List (Key × V)} (b : But d H H') (hd : H d = some (.dK kvs)) : TK H H' := fun c u e t => b c u (fun z => by
  subst z
  rw [hd] at e
  cases e
  exact no_dK t) e
theorem But.lsD {d : Addr} {H H' : Hp} {kvs : List (Key × V)} (b : But d H H') (hd : H d = some (.dK kvs)) : ∀ l xs, H l = some (.lst xs) → H' l = some (.lst xs) := fun l xs e => b l _ (fun z => by
  rw [z, hd] at e
  cases e) e
theorem c__law_rows (T : Top mg) (D : Def K mg "_law_rows" "_law_rows" s__law_rows) : ∀ h, Cal P w K mg base (h + 1) "_law_rows" (spLRows h)
  | 0 => dummy D sc__law_rows (fun _ _ _ _ _ _ us hl => match us, hl with | [_, _], _ => rfl) fun _ _ _ _ ⟨_, _, _, _, _, _, _, h, _⟩ => Nat.not_lt_zero _ h
  | h + 1 => by
    have C__law_rows : Cal P w K mg base (h + 1) "_law_rows" (spLRows h) := c__law_rows T D h
    refine D.cal sc__law_rows (fun _ _ _ _ _ _ us hl => match us, hl with | [_, _], _ => rfl) (fun vs H Q E h => ?_) fun f cdv A outer s H vs Q E hr hsp => ?_
    · obtain ⟨_, _, _, _, _, rfl, _⟩ := h; rfl
    have hu := hu_of hr
    refine ⟨_, (pss_cons (ps_set (i := 2) sc__law_rows.nd rfl (Or.inl rfl) (pe_callB call_lenD rfl T.len PySem.boot_len (pa_cons (pv 1) pa_nil)))
    (pss_cons (ps_dput hu (pv 1) (pv 2) (pe_lst pa_nil) rfl)
    (pss_cons (ps_if (pt_val (pe_isi (T := "str") rfl T.isinstance rfl T.str (by decide +kernel) (pv 0))) (pss_one (ps_dput hu (pv 1) (pv 2) (pv 0) rfl)) (pss_one (ps_dput hu (pv 1) (pv 2) (pe_lc (own := [("_law_part", 3)]) (g := gName 3) (tt := tYes) rfl sc__law_rows.nd (pi_tupK K (pv 0)) (blkOk_by (own := [("_law_part", 3)]) (N := n__law_rows) (sc := defScope s__law_rows) (by decide +kernel)) (fun _ _ _ _ _ => (pg_name (i := 3) sc__law_rows.nd rfl (Or.inl rfl))) (fun _ _ _ _ _ => pts_nil) (fun _ _ _ _ _ => (pe_f C__law_rows hr rfl (pa_cons (pv 3) (pa_cons (pv 1) pa_nil))))) rfl)))
    (pss_one (ps_ret (pv 2)))))), ?_⟩
    obtain ⟨v, d, t, f, b, rfl, hd, hh, hl, hsz, q⟩ := hsp
    have hzp := szT_pos t
    refine ⟨_, rfl, d, _, rfl, hl, ?_⟩
    rw [numD_len]
    refine ⟨Nat.zero_le _, fun l0 hl0 => ?_⟩
    have S1 := same_upd (o := .lst []) hl0
    have hl1 := S1 _ _ hl
    have hll0 : upd H l0 (.lst []) l0 = some (.lst []) := upd_same
    generalize upd H l0 (.lst []) = H1 at S1 hl1 hll0 ⊢
    refine ⟨_, rfl, _, rfl, d, _, rfl, DPut.k (k := nk b) hl1 (by rw [numD_len]; exact smallT (by omega)), ?_⟩
    have e1 : putK (numD f b) (nk b) (.ref l0) = numD (fun j => if j = b then .ref l0 else f j) (b + 1) := by
      have z := numD_new (fun j => if j = b then V.ref l0 else f j) b
      have z2 : numD (fun j => if j = b then V.ref l0 else f j) b = numD f b := numD_congr fun i hi => if_neg (by omega)
      have z3 : (if b = b then V.ref l0 else f b) = .ref l0 := if_pos rfl
      simp only [z2, z3] at z
      exact z
    rw [e1]
    have hl2 : upd H1 d (.dK (numD (fun j => if j = b then .ref l0 else f j) (b + 1))) d = some (.dK (numD (fun j => if j = b then .ref l0 else f j) (b + 1))) := upd_same
    have B2 : But d H (upd H1 d (.dK (numD (fun j => if j = b then .ref l0 else f j) (b + 1)))) := fun c o hc e => by
      rw [upd_ne hc]
      exact S1 _ _ e
    generalize upd H1 d (.dK (numD (fun j => if j = b then .ref l0 else f j) (b + 1))) = H2 at hl2 B2 ⊢
    have hd2 := hd.up (But.tkD B2 hl)
    cases t with
    | leaf z =>
      rw [hd.of_str] at hd2 ⊢
      have h1 : szT (.leaf z) = 1 := rfl
      refine ⟨_, rfl, _, _, .str z, k_ss, _, rfl, iteT ?_⟩
      refine ⟨_, rfl, _, rfl, _, rfl, d, _, rfl, DPut.k (k := nk b) hl2 (by rw [numD_len]; exact smallT (by omega)), ?_⟩
      rw [numD_put _ _ (by omega)]
      refine ⟨_, rfl, q _ _ (fun c o hc e => by rw [upd_ne hc]; exact B2 c o hc e) upd_same (fun i hi => ?_) (fun i r e => ?_)⟩
      · show (if i = b then V.str z else if i = b then V.ref l0 else f i) = f i
        rw [if_neg (by omega), if_neg (by omega)]
      · have hi : i = 0 := by
          have := (List.getElem?_eq_some_iff.mp e).1
          rw [rowsT_len, h1] at this
          omega
        subst hi
        cases e
        show (if b + 0 = b then V.str z else _) = .str z
        rw [if_pos (by omega)]
    | node ts =>
      obtain ⟨a, xs, rfl, ha, hs⟩ := DT.of_tup hd2
      have hlen : xs.length = ts.length := hs.length.trans (encTs_length ts)
      have h1 : szT (.node ts) = szTs ts + 1 := rfl
      have nad : a ≠ d := fun z => by rw [z, hl2] at ha; cases ha
      refine ⟨_, rfl, _, _, .tup ha, k_ts, _, rfl, iteF ?_⟩
      refine ⟨_, rfl, a, rfl, ⟨xs, sq_at ha⟩, fun D hD => ?_⟩
      have nDd : D ≠ d := fun z => by rw [z, hl2] at hD; cases hD
      have tkl : ∀ {i : Nat} {t : Tree}, ts[i]? = some t → rowsTs (b + 1) (ts.take (i + 1)) = rowsTs (b + 1) (ts.take i) ++ rowsT (b + 1 + szTs (ts.take i)) t ∧ starts (b + 1) (ts.take (i + 1)) = starts (b + 1) (ts.take i) ++ [b + 1 + szTs (ts.take i)] ∧ szTs (ts.take (i + 1)) = szTs (ts.take i) + szT t := fun {i t} e => by
        have et : ts.take (i + 1) = ts.take i ++ [t] := by rw [List.take_add_one, e]; rfl
        rw [et]
        refine ⟨?_, ?_, ?_⟩
        · rw [rowsTs_app]
          simp [rowsTs]
        · rw [starts_app]
          simp [starts]
        · rw [szTs_app]
          simp [szTs]
      have szle : ∀ i, szTs (ts.take i) ≤ szTs ts := fun i => by
        have := szTs_app (ts.take i) (ts.drop i)
        rw [List.take_append_drop] at this
        omega
      let f1 : Nat → V := fun j => if j = b then .ref l0 else f j
      refine lc_gen (n := xs.length) (fun i H3 => But d H2 H3 ∧ ∃ f2, H3 d = some (.dK (numD f2 (b + 1 + szTs (ts.take i)))) ∧ (∀ j, j < b + 1 → f2 j = f1 j) ∧ (∀ j r, (rowsTs (b + 1) (ts.take i))[j]? = some r → RowVal (fun l => H l = none ∧ l ≠ D ∧ l ≠ d) H3 (f2 (b + 1 + j)) r) ∧ H3 D = some (.lst ((starts (b + 1) (ts.take i)).map natV)))
        ⟨fun c o hc e => by rw [upd_ne (ne_of_none e hD)]; exact e, f1, by rw [upd_ne (Ne.symm nDd)]; exact hl2, fun j _ => rfl, (fun j r h => by simp [rowsTs] at h), upd_same⟩ (fun i H3 hi ⟨B, _⟩ => go_tup (B _ _ nad ha) hi) (fun H3 ⟨B, _⟩ => st_tup (B _ _ nad ha) (Nat.le_refl _)) (fun i H3 x H4 hi ⟨B3, f2, hl3, hf2, hr3, hD3⟩ hy => ?_) fun H3 ⟨B3, f2, hl3, hf2, hr3, hD3⟩ => ?_
      · obtain ⟨rfl, hx⟩ := hy
        obtain ⟨t, e2, tm, hd1⟩ := part_at hs (hx xs (sq_at (B3 _ _ nad ha)))
        have ht1 := hTs_le tm
        have hh' : hTs ts + 1 < h + 1 := hh
        obtain ⟨k1, k2, k3⟩ := tkl e2
        have ksz := szle (i + 1)
        refine ⟨rfl, _, rfl, _, rfl, x, d, t, f2, _, rfl, hd1.up (But.tkD B3 hl2), by omega, hl3, by omega, fun H5 f3 B5 hl5 hf3 hr5 => ?_⟩
        have hD5 := B5 _ _ nDd hD3
        refine ⟨_, hD5, ?_, fun c o hc e => ?_, f3, ?_, fun j hj => ?_, fun j r hj => ?_, ?_⟩
        · rw [List.length_map, starts_len, List.length_take]
          have : ts.length ≤ szTs ts := by
            have : ∀ us : List Tree, us.length ≤ szTs us := fun us => by
              induction us with
              | nil => exact Nat.zero_le _
              | cons u us ih =>
                have := szT_pos u
                simp only [List.length_cons, szTs]
                omega
            exact this ts
          exact smallT (by omega)
        · rw [upd_ne (ne_of_none e hD)]
          exact B5 _ _ hc (B3 _ _ hc e)
        · rw [upd_ne (Ne.symm nDd), hl5, k3, Nat.add_assoc]
        · rw [hf3 j (by omega)]
          exact hf2 j hj
        · have keep : ∀ l ys, l ≠ D → H5 l = some (.lst ys) → upd H5 D (.lst ((starts (b + 1) (ts.take i)).map natV ++ [natV (b + 1 + szTs (ts.take i))])) l = some (.lst ys) := fun l ys n e => by
            rw [upd_ne n]
            exact e
          rw [k1, List.getElem?_append] at hj
          split at hj
          · rename_i hlt
            rw [rowsTs_len] at hlt
            rw [hf3 (b + 1 + j) (by omega)]
            exact (hr3 j r hj).mono fun l ys ⟨x1, x2, x3⟩ e => ⟨⟨x1, x2, x3⟩, keep l ys x2 (B5 _ _ x3 e)⟩
          · rename_i hge
            rw [rowsTs_len] at hj hge
            have z := hr5 _ r hj
            rw [show b + 1 + szTs (ts.take i) + (j - szTs (ts.take i)) = b + 1 + j by omega] at z
            refine z.mono fun l ys x e => ?_
            have nD : l ≠ D := fun z => by rw [z, hD3] at x; cases x
            have nd : l ≠ d := fun z => by rw [z, hl3] at x; cases x
            refine ⟨⟨?_, nD, nd⟩, keep l ys nD e⟩
            cases eh : H l with
            | none => rfl
            | some o =>
              have := B3 _ _ nd (B2 _ _ nd eh)
              rw [this] at x
              cases x
        · rw [upd_same, k2, List.map_append]
          rfl
      · rw [hlen, List.take_length] at hl3 hr3 hD3
        have nbt : b < b + 1 + szTs ts := by omega
        refine ⟨_, rfl, _, rfl, d, _, rfl, DPut.k (k := nk b) hl3 (by rw [numD_len]; exact smallT (by omega)), ?_⟩
        rw [numD_put _ _ nbt]
        have B4 : But d H (upd H3 d (.dK (numD (fun j => if j = b then .ref D else f2 j) (b + 1 + szTs ts)))) := fun c o hc e => by
          rw [upd_ne hc]
          exact B3 c o hc (B2 c o hc e)
        have D0 : H D = none := by
          cases eh : H D with
          | none => rfl
          | some o =>
            have := B2 _ _ nDd eh
            rw [this] at hD
            cases hD
        refine ⟨_, rfl, q _ (fun j => if j = b then .ref D else f2 j) B4 (by rw [upd_same, h1, show b + (szTs ts + 1) = b + 1 + szTs ts by omega]) (fun i hi => ?_) (fun i r e => ?_)⟩
        · show (if i = b then V.ref D else f2 i) = f i
          rw [if_neg (by omega), hf2 i (by omega)]
          exact if_neg (by omega)
        · cases i with
          | zero =>
            cases e
            show RowVal _ _ (if b + 0 = b then V.ref D else f2 (b + 0)) (.fork (starts (b + 1) ts))
            rw [if_pos (by omega)]
            exact ⟨D, rfl, D0, by rw [upd_ne nDd]; exact hD3⟩
          | succ i =>
            have e : (rowsTs (b + 1) ts)[i]? = some r := e
            show RowVal _ _ (if b + (i + 1) = b then V.ref D else f2 (b + (i + 1))) r
            rw [if_neg (by omega), show b + (i + 1) = b + 1 + i by omega]
            exact (hr3 i r e).mono fun l ys ⟨x1, x2, x3⟩ e => ⟨x1, by rw [upd_ne x3]; exact e⟩
end
end JT
/-! Mat10: a net with one join more; ranks. -/
namespace JT
open PySem PySem.Spec PyProof.Rows L2 PySem.W
theorem Loose.rank_small {N : Net} (G : Loose N) : ∃ ρ : Nat → Nat, (∀ i k, k ∈ kidsAt N i → ρ i < ρ k) ∧ ∀ i, ρ i ≤ N.length := by
  obtain ⟨ρ, h⟩ := G.rank
  refine ⟨fun x => ((List.range N.length).filter fun j => decide (ρ j < ρ x)).length, fun i k hk => ?_, fun i => ?_⟩
  · have hi := kidsAt_lt hk
    have r := h i k hk
    have z := nodup_le (l := i :: ((List.range N.length).filter fun j => decide (ρ j < ρ i))) (m := (List.range N.length).filter fun j => decide (ρ j < ρ k)) (by
      refine List.nodup_cons.mpr ⟨fun z => ?_, List.Nodup.sublist List.filter_sublist List.nodup_range⟩
      have := of_decide_eq_true (List.mem_filter.mp z).2
      omega) fun x hx => by
      rcases List.mem_cons.mp hx with e | hx
      · subst e
        exact List.mem_filter.mpr ⟨List.mem_range.mpr hi, decide_eq_true r⟩
      · have hx := List.mem_filter.mp hx
        have h2 := of_decide_eq_true hx.2
        exact List.mem_filter.mpr ⟨hx.1, decide_eq_true (by omega)⟩
    rw [List.length_cons] at z
    exact z
  · have := List.length_filter_le (fun j => decide (ρ j < ρ i)) (List.range N.length)
    rw [List.length_range] at this
    exact this
theorem same_len {l m : List Nat} (a : l.Nodup) (b : m.Nodup) (h : ∀ x, x ∈ l ↔ x ∈ m) : l.length = m.length :=
  Nat.le_antisymm (nodup_le a fun x hx => (h x).mp hx) (nodup_le b fun x hx => (h x).mpr hx)
def swap1 (k m j : Nat) : Nat := if j = k then m else j
def swapK (k m : Nat) (ks : List Nat) : List Nat := ks.map (swap1 k m)
def Row.swap (k m : Nat) : Row → Row
  | .leaf s => .leaf s
  | .fork ks => .fork (swapK k m ks)
  | .join j => .join (swap1 k m j)
theorem Row.swap_kids (k m : Nat) (r : Row) : (r.swap k m).kids = swapK k m r.kids := by cases r <;> rfl
theorem Row.swap_name (k m : Nat) (r : Row) : (r.swap k m).name? = r.name? := by cases r <;> rfl
theorem Row.swap_join (k m : Nat) (r : Row) : (r.swap k m).isJoin = r.isJoin := by cases r <;> rfl
theorem Row.swap_leaf (k m : Nat) (r : Row) : (r.swap k m).isLeaf = r.isLeaf := by cases r <;> rfl
theorem mem_swapK {k m j : Nat} {ks : List Nat} : j ∈ swapK k m ks ↔ (j ∈ ks ∧ j ≠ k) ∨ (j = m ∧ k ∈ ks) := by
  unfold swapK swap1
  rw [List.mem_map]
  constructor
  · rintro ⟨x, hx, e⟩
    by_cases h : x = k
    · rw [if_pos h] at e
      exact .inr ⟨e.symm, by rw [← h]; exact hx⟩
    · rw [if_neg h] at e
      subst e
      exact .inl ⟨hx, h⟩
  · rintro (⟨h1, h2⟩ | ⟨h1, h2⟩)
    · exact ⟨j, h1, if_neg h2⟩
    · exact ⟨k, h2, by rw [if_pos rfl]; exact h1.symm⟩
theorem swapK_nodup {k m : Nat} {ks : List Nat} (nd : ks.Nodup) (hm : m ∉ ks) : (swapK k m ks).Nodup := by
  unfold swapK
  rw [List.nodup_iff_pairwise_ne, List.pairwise_map]
  refine List.Pairwise.imp_of_mem (R := fun a b => a ≠ b) (fun {a b} ha hb hab e => ?_) (List.nodup_iff_pairwise_ne.mp nd)
  unfold swap1 at e
  by_cases h1 : a = k
  · rw [if_pos h1] at e
    by_cases h2 : b = k
    · exact hab (h1.trans h2.symm)
    · rw [if_neg h2] at e
      exact hm (by rw [e]; exact hb)
  · rw [if_neg h1] at e
    by_cases h2 : b = k
    · rw [if_pos h2] at e
      exact hm (by rw [← e]; exact ha)
    · rw [if_neg h2] at e
      exact hab e
/-- the row i of the net with a join more: at p1 its kid k1 gives way to the fork n, at p2 its kid k2 to the join n + 1 -/
def newR (n p1 k1 p2 k2 i : Nat) (r : Row) : Row :=
  let r1 := if i = p1 then r.swap k1 n else r
  if i = p2 then r1.swap k2 (n + 1) else r1
def more (N : Net) (p1 k1 p2 k2 : Nat) : Net := N.mapIdx (newR N.length p1 k1 p2 k2) ++ [.fork [k1, N.length + 1], .join k2]
section
variable {N : Net} {p1 k1 p2 k2 : Nat}
theorem newR_prop {α : Type} (g : Row → α) (hg : ∀ k m r, g (Row.swap k m r) = g r) (n p1 k1 p2 k2 i : Nat) (r : Row) : g (newR n p1 k1 p2 k2 i r) = g r := by
  unfold newR
  dsimp only
  split <;> split <;> simp only [hg]
theorem newR_name (n p1 k1 p2 k2 i : Nat) (r : Row) : (newR n p1 k1 p2 k2 i r).name? = r.name? := newR_prop Row.name? Row.swap_name ..
theorem newR_join (n p1 k1 p2 k2 i : Nat) (r : Row) : (newR n p1 k1 p2 k2 i r).isJoin = r.isJoin := newR_prop Row.isJoin Row.swap_join ..
def forkLen : Row → Option Nat
  | .fork ks => some ks.length
  | _ => none
theorem newR_len (n p1 k1 p2 k2 i : Nat) (r : Row) : forkLen (newR n p1 k1 p2 k2 i r) = forkLen r := newR_prop forkLen (fun k m r => by cases r <;> simp [forkLen, Row.swap, swapK]) ..
theorem more_len (N : Net) (p1 k1 p2 k2 : Nat) : (more N p1 k1 p2 k2).length = N.length + 2 := by simp [more]
theorem more_old {i : Nat} (h : i < N.length) : (more N p1 k1 p2 k2)[i]? = N[i]?.map (newR N.length p1 k1 p2 k2 i) := by
  unfold more
  rw [List.getElem?_append_left (by simpa using h), List.getElem?_mapIdx]
theorem more_fork : (more N p1 k1 p2 k2)[N.length]? = some (.fork [k1, N.length + 1]) := by
  unfold more
  rw [List.getElem?_append_right (by simp)]
  simp
theorem more_join : (more N p1 k1 p2 k2)[N.length + 1]? = some (.join k2) := by
  unfold more
  rw [List.getElem?_append_right (by simp)]
  simp
theorem kids_fork : kidsAt (more N p1 k1 p2 k2) N.length = [k1, N.length + 1] := kidsAt_some more_fork
theorem kids_join : kidsAt (more N p1 k1 p2 k2) (N.length + 1) = [k2] := kidsAt_some more_join
theorem kids_old {i : Nat} (h : i < N.length) : kidsAt (more N p1 k1 p2 k2) i = (let ks := if i = p1 then swapK k1 N.length (kidsAt N i) else kidsAt N i; if i = p2 then swapK k2 (N.length + 1) ks else ks) := by
  obtain ⟨r, er⟩ := row_ex h
  have e := more_old (p1 := p1) (k1 := k1) (p2 := p2) (k2 := k2) h
  rw [er] at e
  rw [kidsAt_some e, kidsAt_some er]
  unfold newR
  dsimp only
  simp only [apply_ite Row.kids, Row.swap_kids, apply_ite (swapK k2 (N.length + 1))]
variable (G : Loose N) (h1 : k1 ∈ kidsAt N p1) (h2 : k2 ∈ kidsAt N p2) (hne : ¬ (p1 = p2 ∧ k1 = k2))
include G h1 h2 hne
theorem mem_old {i j : Nat} (hi : i < N.length) : j ∈ kidsAt (more N p1 k1 p2 k2) i ↔ (j ∈ kidsAt N i ∧ ¬ (i = p1 ∧ j = k1) ∧ ¬ (i = p2 ∧ j = k2)) ∨ (j = N.length ∧ i = p1) ∨ (j = N.length + 1 ∧ i = p2) := by
  rw [kids_old hi]
  have l1 := G.lt _ _ h1
  have l2 := G.lt _ _ h2
  have lj : j ∈ kidsAt N i → j < N.length := G.lt i j
  by_cases a : i = p1
  · subst a
    by_cases b : i = p2
    · subst b
      simp only [if_true, mem_swapK, true_and]
      have hk : k1 ≠ k2 := fun z => hne ⟨rfl, z⟩
      constructor
      · rintro (⟨⟨u1, u2⟩ | ⟨u1, u2⟩, u3⟩ | ⟨u1, u2⟩)
        · exact .inl ⟨u1, u2, u3⟩
        · exact .inr (.inl ⟨u1, trivial⟩)
        · exact .inr (.inr ⟨u1, trivial⟩)
      · rintro (⟨u1, u2, u3⟩ | ⟨u1, _⟩ | ⟨u1, _⟩)
        · exact .inl ⟨.inl ⟨u1, u2⟩, u3⟩
        · exact .inl ⟨.inr ⟨u1, h1⟩, by omega⟩
        · exact .inr ⟨u1, .inl ⟨h2, Ne.symm hk⟩⟩
    · simp only [if_true, if_neg b, mem_swapK, true_and]
      constructor
      · rintro (⟨u1, u2⟩ | ⟨u1, u2⟩)
        · exact .inl ⟨u1, u2, fun z => b z.1⟩
        · exact .inr (.inl ⟨u1, trivial⟩)
      · rintro (⟨u1, u2, u3⟩ | ⟨u1, _⟩ | ⟨u1, z⟩)
        · exact .inl ⟨u1, u2⟩
        · exact .inr ⟨u1, h1⟩
        · exact absurd z b
  · by_cases b : i = p2
    · subst b
      simp only [if_true, if_neg a, mem_swapK, true_and]
      constructor
      · rintro (⟨u1, u2⟩ | ⟨u1, u2⟩)
        · exact .inl ⟨u1, fun z => a z.1, u2⟩
        · exact .inr (.inr ⟨u1, trivial⟩)
      · rintro (⟨u1, u2, u3⟩ | ⟨u1, z⟩ | ⟨u1, _⟩)
        · exact .inl ⟨u1, u3⟩
        · exact absurd z a
        · exact .inr ⟨u1, h2⟩
    · simp only [if_neg a, if_neg b]
      constructor
      · exact fun u => .inl ⟨u, fun z => a z.1, fun z => b z.1⟩
      · rintro (⟨u, _⟩ | ⟨_, z⟩ | ⟨_, z⟩)
        · exact u
        · exact absurd z a
        · exact absurd z b
theorem more_nodup (i : Nat) : (kidsAt (more N p1 k1 p2 k2) i).Nodup := by
  have l1 := G.lt _ _ h1
  have l2 := G.lt _ _ h2
  rcases Nat.lt_or_ge i N.length with h | h
  · rw [kids_old h]
    have nd := G.kids_nodup i
    have n1 : N.length ∉ kidsAt N i := fun z => Nat.lt_irrefl _ (G.lt _ _ z)
    have n2 : N.length + 1 ∉ kidsAt N i := fun z => absurd (G.lt _ _ z) (by omega)
    have a1 : (if i = p1 then swapK k1 N.length (kidsAt N i) else kidsAt N i).Nodup := by
      split
      · exact swapK_nodup nd n1
      · exact nd
    have a2 : N.length + 1 ∉ (if i = p1 then swapK k1 N.length (kidsAt N i) else kidsAt N i) := by
      split
      · rw [mem_swapK]
        rintro (⟨u, _⟩ | ⟨u, _⟩)
        · exact n2 u
        · omega
      · exact n2
    show (if i = p2 then swapK k2 (N.length + 1) (if i = p1 then swapK k1 N.length (kidsAt N i) else kidsAt N i) else (if i = p1 then swapK k1 N.length (kidsAt N i) else kidsAt N i)).Nodup
    split
    · exact swapK_nodup a1 a2
    · exact a1
  · by_cases e : i = N.length
    · subst e
      rw [kids_fork]
      simp
      omega
    · by_cases e2 : i = N.length + 1
      · subst e2
        rw [kids_join]
        simp
      · rw [kidsAt_none (by rw [more_len]; omega)]
        exact List.nodup_nil
theorem more_lt : ∀ i k, k ∈ kidsAt (more N p1 k1 p2 k2) i → k < (more N p1 k1 p2 k2).length := fun i k hk => by
  have l1 := G.lt _ _ h1
  have l2 := G.lt _ _ h2
  have hi := kidsAt_lt hk
  rw [more_len] at hi ⊢
  rcases Nat.lt_or_ge i N.length with h | h
  · rcases (mem_old G h1 h2 hne h).mp hk with ⟨u, _⟩ | ⟨u, _⟩ | ⟨u, _⟩
    · have := G.lt _ _ u
      omega
    · omega
    · omega
  · by_cases e : i = N.length
    · subst e
      rw [kids_fork] at hk
      simp at hk
      omega
    · have e2 : i = N.length + 1 := by omega
      subst e2
      rw [kids_join] at hk
      simp at hk
      omega
theorem more_row {i : Nat} {r' : Row} (hi : i < N.length) (e : (more N p1 k1 p2 k2)[i]? = some r') : ∃ r, N[i]? = some r ∧ r'.isJoin = r.isJoin ∧ r'.name? = r.name? := by
  rw [more_old hi] at e
  obtain ⟨r, er, rfl⟩ := Option.map_eq_some_iff.mp e
  exact ⟨r, er, newR_join .., newR_name ..⟩
theorem isJoin_iff {r : Row} : r.isJoin = true ↔ ∃ k, r = .join k := by
  cases r <;> simp [Row.isJoin]
omit G h1 h2 hne in
theorem due_eq {M : Net} {i : Nat} {r : Row} (e : M[i]? = some r) : dueWays M i = if i = 0 then 0 else if r.isJoin = true then 2 else 1 := by
  unfold dueWays
  rw [e]
  cases r <;> rfl
theorem more_ways (k : Nat) (hk : k < (more N p1 k1 p2 k2).length) : (ways (more N p1 k1 p2 k2) k).length = dueWays (more N p1 k1 p2 k2) k := by
  have l1 := G.lt _ _ h1
  have l2 := G.lt _ _ h2
  have q1 := kidsAt_lt h1
  have q2 := kidsAt_lt h2
  have nd2 : ∀ k, (ways (more N p1 k1 p2 k2) k).Nodup := fun k => by
    rw [ways_eq (more_nodup G h1 h2 hne)]
    exact List.Nodup.sublist List.filter_sublist List.nodup_range
  have mw : ∀ i, i ∈ ways (more N p1 k1 p2 k2) k ↔ k ∈ kidsAt (more N p1 k1 p2 k2) i := fun i => mem_ways
  rw [more_len] at hk
  rcases Nat.lt_or_ge k N.length with h | h
  · -- the rows of old
    obtain ⟨r, er⟩ := row_ex h
    have e := more_old (p1 := p1) (k1 := k1) (p2 := p2) (k2 := k2) h
    rw [er] at e
    have d1 := due_eq e
    have d2 := due_eq er
    rw [newR_join] at d1
    rw [d1, ← d2, ← G.led k h]
    let φ : Nat → Nat := fun i => if i = p1 ∧ k = k1 then N.length else if i = p2 ∧ k = k2 then N.length + 1 else i
    have hφ : ∀ i, φ i = if i = p1 ∧ k = k1 then N.length else if i = p2 ∧ k = k2 then N.length + 1 else i := fun _ => rfl
    have wl : ∀ i ∈ ways N k, i < N.length := fun i hi => kidsAt_lt (mem_ways.mp hi)
    have ndm : ((ways N k).map φ).Nodup := by
      rw [List.nodup_iff_pairwise_ne, List.pairwise_map]
      refine List.Pairwise.imp_of_mem (R := fun a b => a ≠ b) (fun {a b} ha hb hab z => ?_) (List.nodup_iff_pairwise_ne.mp (G.ways_nodup k))
      have la := wl a ha
      have lb := wl b hb
      rw [hφ, hφ] at z
      by_cases c1 : a = p1 ∧ k = k1
      · rw [if_pos c1] at z
        by_cases c2 : b = p1 ∧ k = k1
        · exact hab (c1.1.trans c2.1.symm)
        · rw [if_neg c2] at z
          split at z <;> omega
      · rw [if_neg c1] at z
        by_cases c3 : a = p2 ∧ k = k2
        · rw [if_pos c3] at z
          by_cases c2 : b = p1 ∧ k = k1
          · rw [if_pos c2] at z
            omega
          · rw [if_neg c2] at z
            by_cases c4 : b = p2 ∧ k = k2
            · exact hab (c3.1.trans c4.1.symm)
            · rw [if_neg c4] at z
              omega
        · rw [if_neg c3] at z
          by_cases c2 : b = p1 ∧ k = k1
          · rw [if_pos c2] at z
            omega
          · rw [if_neg c2] at z
            split at z <;> omega
    have z := same_len (nd2 k) ndm fun i => by
      rw [mw i, List.mem_map]
      constructor
      · intro hi
        have il := kidsAt_lt hi
        rw [more_len] at il
        rcases Nat.lt_or_ge i N.length with hl | hl
        · rcases (mem_old G h1 h2 hne hl).mp hi with ⟨u, v, w⟩ | ⟨u, _⟩ | ⟨u, _⟩
          · exact ⟨i, mem_ways.mpr u, by rw [hφ, if_neg v, if_neg w]⟩
          · omega
          · omega
        · by_cases e : i = N.length
          · subst e
            rw [kids_fork] at hi
            have hi : k = k1 := by
              simp at hi
              omega
            subst hi
            exact ⟨p1, mem_ways.mpr h1, by rw [hφ, if_pos ⟨rfl, rfl⟩]⟩
          · have e2 : i = N.length + 1 := by omega
            subst e2
            rw [kids_join] at hi
            have hi : k = k2 := by simpa using hi
            subst hi
            refine ⟨p2, mem_ways.mpr h2, ?_⟩
            rw [hφ, if_neg (fun z => hne ⟨z.1.symm, z.2.symm⟩), if_pos ⟨rfl, rfl⟩]
      · rintro ⟨x, hx, rfl⟩
        have hx := mem_ways.mp hx
        have xl := kidsAt_lt hx
        rw [hφ]
        by_cases c1 : x = p1 ∧ k = k1
        · rw [if_pos c1, kids_fork]
          simp [c1.2]
        · rw [if_neg c1]
          by_cases c2 : x = p2 ∧ k = k2
          · rw [if_pos c2, kids_join]
            simp [c2.2]
          · rw [if_neg c2]
            exact (mem_old G h1 h2 hne xl).mpr (.inl ⟨hx, c1, c2⟩)
    rw [z, List.length_map]
  · by_cases e : k = N.length
    · subst e
      have z := same_len (nd2 N.length) (m := [p1]) (by simp) fun i => by
        rw [mw i, List.mem_singleton]
        constructor
        · intro hi
          have il := kidsAt_lt hi
          rw [more_len] at il
          rcases Nat.lt_or_ge i N.length with hl | hl
          · rcases (mem_old G h1 h2 hne hl).mp hi with ⟨u, v, w⟩ | ⟨_, u⟩ | ⟨u, _⟩
            · have := G.lt _ _ u
              omega
            · exact u
            · omega
          · by_cases e : i = N.length
            · subst e
              rw [kids_fork] at hi
              simp at hi
              omega
            · have e2 : i = N.length + 1 := by omega
              subst e2
              rw [kids_join] at hi
              simp at hi
              omega
        · rintro rfl
          exact (mem_old G h1 h2 hne q1).mpr (.inr (.inl ⟨rfl, rfl⟩))
      rw [z, due_eq more_fork, if_neg (by omega)]
      rfl
    · have e2 : k = N.length + 1 := by omega
      subst e2
      have z := same_len (nd2 (N.length + 1)) (m := [p2, N.length]) (by simp; omega) fun i => by
        rw [mw i]
        constructor
        · intro hi
          have il := kidsAt_lt hi
          rw [more_len] at il
          rcases Nat.lt_or_ge i N.length with hl | hl
          · rcases (mem_old G h1 h2 hne hl).mp hi with ⟨u, v, w⟩ | ⟨u, _⟩ | ⟨_, u⟩
            · have := G.lt _ _ u
              omega
            · omega
            · simp [u]
          · by_cases e : i = N.length
            · simp [e]
            · have e2 : i = N.length + 1 := by omega
              subst e2
              rw [kids_join] at hi
              simp at hi
              omega
        · intro hi
          simp at hi
          rcases hi with e | e
          · subst e
            exact (mem_old G h1 h2 hne q2).mpr (.inr (.inr ⟨rfl, rfl⟩))
          · subst e
            rw [kids_fork]
            simp
      rw [z, due_eq more_join, if_neg (by omega)]
      rfl
theorem names_more : JT.names (more N p1 k1 p2 k2) = JT.names N := by
  have gen : ∀ (M : Net) (f : Nat → Row → Row), (∀ i r, (f i r).name? = r.name?) → (M.mapIdx f).filterMap Row.name? = M.filterMap Row.name? := by
    intro M
    induction M with
    | nil => intro f h; rfl
    | cons r M ih =>
      intro f h
      rw [List.mapIdx_cons, List.filterMap_cons, List.filterMap_cons, h, ih (fun i => f (i + 1)) fun i r => h (i + 1) r]
  unfold JT.names more
  rw [List.filterMap_append, gen _ _ (fun i r => newR_name ..)]
  simp [Row.name?]
theorem more_jlen : (JT.joins (more N p1 k1 p2 k2)).length ≤ (JT.joins N).length + 1 := by
  have z := nodup_le (joins_nodup (more N p1 k1 p2 k2)) (m := (N.length + 1) :: JT.joins N) fun x hx => by
    obtain ⟨k, e⟩ := mem_joins.mp hx
    have hi := (List.getElem?_eq_some_iff.mp e).1
    rw [more_len] at hi
    rcases Nat.lt_or_ge x N.length with hl | hl
    · obtain ⟨r, er, ej, _⟩ := more_row G h1 h2 hne hl e
      cases r with
      | join j => exact List.mem_cons_of_mem _ (mem_joins.mpr ⟨j, er⟩)
      | leaf s => cases ej
      | fork s => cases ej
    · by_cases e1 : x = N.length
      · subst e1
        rw [more_fork] at e
        cases e
      · have e2 : x = N.length + 1 := by omega
        rw [e2]
        simp
  rw [List.length_cons] at z
  exact z
/-- the rows that k leads to -/
def Leads (N : Net) (k x : Nat) : Prop := ∃ m, Dn N k m x
open Classical in
theorem more_loose (hlen : N.length + 2 ≤ 49) (hj : (JT.joins N).length + 1 ≤ 6) (hno : ¬ Leads N k2 p1) : Loose (more N p1 k1 p2 k2) := by
  have l1 := G.lt _ _ h1
  have l2 := G.lt _ _ h2
  have q1 := kidsAt_lt h1
  have q2 := kidsAt_lt h2
  have nn := names_more G h1 h2 hne
  refine { pos := by rw [more_len]; omega, len := by rw [more_len]; exact hlen, lt := more_lt G h1 h2 hne, two := fun i ks h => ?_, led := more_ways G h1 h2 hne, root := fun k h => ?_, nameOk := by rw [nn]; exact G.nameOk, nd := by rw [nn]; exact G.nd, few := by rw [nn]; exact G.few, jfew := ?_, rank := ?_ }
  · refine ⟨?_, by have := more_nodup G h1 h2 hne i; rw [kidsAt_some h] at this; exact this⟩
    have hi := (List.getElem?_eq_some_iff.mp h).1
    rw [more_len] at hi
    rcases Nat.lt_or_ge i N.length with hl | hl
    · rw [more_old hl] at h
      obtain ⟨r, er, e⟩ := Option.map_eq_some_iff.mp h
      have two : ∀ ks', r = .fork ks' → 2 ≤ ks'.length := fun ks' z => (G.two i ks' (by rw [← z]; exact er)).1
      have z := newR_len N.length p1 k1 p2 k2 i r
      rw [e] at z
      cases r with
      | leaf s => cases z
      | join s => cases z
      | fork ks' =>
        have el : some ks.length = some ks'.length := z
        have := two ks' rfl
        injection el with el
        omega
    · by_cases e : i = N.length
      · subst e
        rw [more_fork] at h
        cases h
        exact Nat.le_refl 2
      · have e2 : i = N.length + 1 := by omega
        subst e2
        rw [more_join] at h
        cases h
  · obtain ⟨r, er, ej, _⟩ := more_row G h1 h2 hne G.pos h
    cases r with
    | join j => exact G.root j er
    | leaf s => cases ej
    | fork s => cases ej
  · have z := nodup_le (joins_nodup (more N p1 k1 p2 k2)) (m := (N.length + 1) :: JT.joins N) fun x hx => by
      obtain ⟨k, e⟩ := mem_joins.mp hx
      have hi := (List.getElem?_eq_some_iff.mp e).1
      rw [more_len] at hi
      rcases Nat.lt_or_ge x N.length with hl | hl
      · obtain ⟨r, er, ej, _⟩ := more_row G h1 h2 hne hl e
        cases r with
        | join j => exact List.mem_cons_of_mem _ (mem_joins.mpr ⟨j, er⟩)
        | leaf s => cases ej
        | fork s => cases ej
      · by_cases e1 : x = N.length
        · subst e1
          rw [more_fork] at e
          cases e
        · have e2 : x = N.length + 1 := by omega
          rw [e2]
          simp
    rw [List.length_cons] at z
    omega
  · obtain ⟨ρ, hρ⟩ := G.rank
    have upD : ∀ {a m b}, Dn N a m b → ρ a ≤ ρ b := fun {a m b} h => by
      induction h with
      | refl => exact Nat.le_refl _
      | step hk _ ih =>
        have := hρ _ _ hk
        omega
    have p2no : ¬ Leads N k2 p2 := fun ⟨m, h⟩ => by
      have := upD h
      have := hρ _ _ h2
      omega
    let M := 3 * ρ p1 + 3
    let old : Nat → Nat := fun x => 3 * ρ x + if Leads N k2 x then M else 0
    let σ : Nat → Nat := fun x => if x < N.length then old x else if x = N.length then 3 * ρ p1 + 1 else max (3 * ρ p1 + 2) (3 * ρ p2 + 1)
    have so : ∀ x, x < N.length → σ x = old x := fun x h => if_pos h
    have sF : σ N.length = 3 * ρ p1 + 1 := by
      show (if N.length < N.length then _ else if N.length = N.length then _ else _) = _
      rw [if_neg (Nat.lt_irrefl _), if_pos rfl]
    have sJ : σ (N.length + 1) = max (3 * ρ p1 + 2) (3 * ρ p2 + 1) := by
      show (if N.length + 1 < N.length then _ else if N.length + 1 = N.length then _ else _) = _
      rw [if_neg (by omega), if_neg (by omega)]
    have oge : ∀ x, 3 * ρ x ≤ old x := fun x => Nat.le_add_right _ _
    have op1 : old p1 = 3 * ρ p1 := by
      show 3 * ρ p1 + (if Leads N k2 p1 then M else 0) = _
      rw [if_neg hno]
      rfl
    have op2 : old p2 = 3 * ρ p2 := by
      show 3 * ρ p2 + (if Leads N k2 p2 then M else 0) = _
      rw [if_neg p2no]
      rfl
    have ok2 : old k2 = 3 * ρ k2 + (3 * ρ p1 + 3) := by
      show 3 * ρ k2 + (if Leads N k2 k2 then M else 0) = _
      rw [if_pos ⟨0, .refl _⟩]
    have r1 := hρ _ _ h1
    have r2 := hρ _ _ h2
    have omono : ∀ a b, b ∈ kidsAt N a → old a < old b := fun a b hb => by
      have r := hρ _ _ hb
      show 3 * ρ a + (if Leads N k2 a then M else 0) < 3 * ρ b + (if Leads N k2 b then M else 0)
      by_cases la : Leads N k2 a
      · have lb : Leads N k2 b := by
          obtain ⟨m, h⟩ := la
          exact ⟨m + 1, h.snoc hb⟩
        rw [if_pos la, if_pos lb]
        omega
      · rw [if_neg la]
        omega
    refine ⟨σ, fun i k hk => ?_⟩
    have il := kidsAt_lt hk
    rw [more_len] at il
    rcases Nat.lt_or_ge i N.length with hl | hl
    · rcases (mem_old G h1 h2 hne hl).mp hk with ⟨u, _⟩ | ⟨u, v⟩ | ⟨u, v⟩
      · rw [so i hl, so k (G.lt _ _ u)]
        exact omono _ _ u
      · subst u v
        rw [so _ hl, sF, op1]
        omega
      · subst u v
        rw [so _ hl, sJ, op2]
        omega
    · by_cases e : i = N.length
      · subst e
        rw [kids_fork] at hk
        have hk : k = k1 ∨ k = N.length + 1 := by simpa using hk
        rcases hk with e | e
        · subst e
          rw [sF, so _ l1]
          have := oge k
          omega
        · subst e
          rw [sF, sJ]
          omega
      · have e2 : i = N.length + 1 := by omega
        subst e2
        rw [kids_join] at hk
        have hk : k = k2 := by simpa using hk
        subst hk
        rw [sJ, so _ l2, ok2]
        omega
end
/-- a net with an edge has two -/
theorem Loose.two_edges {N : Net} (G : Loose N) {i k : Nat} (h : k ∈ kidsAt N i) : ∃ e1 e2 : Nat × Nat, e1 ≠ e2 ∧ e1.2 ∈ kidsAt N e1.1 ∧ e2.2 ∈ kidsAt N e2.1 := by
  obtain ⟨r, er⟩ := row_ex (kidsAt_lt h)
  cases r with
  | leaf s =>
    rw [kidsAt_some er] at h
    cases h
  | fork ks =>
    obtain ⟨l2, nd⟩ := G.two i ks er
    match ks, l2, nd with
    | a :: b :: _, _, nd =>
      have hab : a ≠ b := fun z => by simp [z] at nd
      exact ⟨(i, a), (i, b), (fun z => hab (by injection z)), by rw [kidsAt_some er]; simp [Row.kids], by rw [kidsAt_some er]; simp [Row.kids]⟩
  | join j =>
    have hj : i ∈ JT.joins N := mem_joins.mpr ⟨j, er⟩
    have hl := G.led i (kidsAt_lt h)
    rw [due_join G hj] at hl
    have hnd := G.ways_nodup i
    match hw : ways N i, hl, hnd with
    | a :: b :: _, _, nd =>
      have hab : a ≠ b := fun z => by simp [z] at nd
      have ha : a ∈ ways N i := by rw [hw]; simp
      have hb : b ∈ ways N i := by rw [hw]; simp
      exact ⟨(a, i), (b, i), (fun z => hab (by injection z)), mem_ways.mp ha, mem_ways.mp hb⟩
end JT
/-! A6: what leads where. -/
namespace JT
open PySem PySem.Spec PyProof.Rows L2 PySem.W
abbrev s__law_leads_to : Stmt := topS 64
abbrev n__law_leads_to : List Str := ["_law_rows_here", "_law_one", "_law_other", "_law_left", "_law_seen", "_law_at"]
theorem sc__law_leads_to : FnScope n__law_leads_to ["_law_rows_here", "_law_one", "_law_other"] (defScope s__law_leads_to) :=
  ⟨rfl, rfl, rfl, by decide +kernel, rfl, by decide +kernel, by decide +kernel⟩
section
variable {P : Program} {w : World} {K : PySem.W.Frag} {mg : Str → Option Value} {base : Heap}
/-- the rows of N in the dict d -/
def RowsD (H : Hp) (d : Addr) (N : Net) : Prop := ∃ kvs : List (Key × V), H d = some (.dK kvs) ∧ (kvs.map (·.1)).Nodup ∧ (∀ k, k ∈ kvs.map (·.1) ↔ ∃ i, i < N.length ∧ k = nk i) ∧ ∀ i r, N[i]? = some r → ∃ v, valV kvs (nk i) = some v ∧ RowVal (fun _ => True) H v r
theorem RowsD.keep {H H' : Hp} {d : Addr} {N : Net} (h : RowsD H d N) (hd : ∀ o, H d = some o → H' d = some o) (hl : ∀ l xs, H l = some (.lst xs) → H' l = some (.lst xs)) : RowsD H' d N := by
  obtain ⟨kvs, e, n, k, r⟩ := h
  refine ⟨kvs, hd _ e, n, k, fun i x hx => ?_⟩
  obtain ⟨v, ev, rv⟩ := r i x hx
  exact ⟨v, ev, rv.mono fun l xs _ e => ⟨trivial, hl _ _ e⟩⟩
theorem RowsD.up {H H' : Hp} {d : Addr} {N : Net} (h : RowsD H d N) (S : Same H H') : RowsD H' d N := h.keep (fun _ => S _ _) fun _ _ => S _ _
theorem RowsD.but {H H' : Hp} {d p : Addr} {N : Net} (h : RowsD H d N) (B : But p H H') (hp : ∃ o, H p = some (.dK o)) (n : d ≠ p) : RowsD H' d N := h.keep (fun _ => B _ _ n) fun l xs e => B _ _ (fun z => by
  obtain ⟨o, h⟩ := hp
  rw [z, h] at e
  cases e) e
theorem RowsD.at {H : Hp} {d : Addr} {N : Net} (h : RowsD H d N) {i : Nat} {r : Row} (e : N[i]? = some r) : ∃ v, DGet H d (natV i) (some v) ∧ RowVal (fun _ => True) H v r := by
  obtain ⟨kvs, e1, n, k, rr⟩ := h
  obtain ⟨v, ev, rv⟩ := rr i r e
  refine ⟨v, ?_, rv⟩
  have z := DGet.k (k := nk i) e1
  rw [ev] at z
  exact z
/-- what rows not in S have of kids -/
def unS (N : Net) (S : List Nat) : Nat → Nat
  | 0 => 0
  | n + 1 => unS N S n + if n ∈ S then 0 else (kidsAt N n).length
theorem unS_new (N : Net) {S : List Nat} {x : Nat} (h : x ∉ S) : ∀ n, unS N (S ++ [x]) n + (if x < n then (kidsAt N x).length else 0) = unS N S n
  | 0 => rfl
  | n + 1 => by
    have ih := unS_new N h n
    show unS N (S ++ [x]) n + (if n ∈ S ++ [x] then 0 else (kidsAt N n).length) + _ = unS N S n + (if n ∈ S then 0 else (kidsAt N n).length)
    by_cases e : n = x
    · subst e
      rw [if_pos (show n ∈ S ++ [n] by simp), if_neg h, if_pos (Nat.lt_succ_self n)]
      rw [if_neg (Nat.lt_irrefl n)] at ih
      omega
    · have m : n ∈ S ++ [x] ↔ n ∈ S := by simp [e]
      by_cases g : n ∈ S
      · rw [if_pos g, if_pos (m.mpr g)]
        by_cases l : x < n
        · rw [if_pos l] at ih
          rw [if_pos (by omega)]
          omega
        · rw [if_neg l] at ih
          rw [if_neg (by omega)]
          omega
      · rw [if_neg g, if_neg (fun z => g (m.mp z))]
        by_cases l : x < n
        · rw [if_pos l] at ih
          rw [if_pos (by omega)]
          omega
        · rw [if_neg l] at ih
          rw [if_neg (by omega)]
          omega
theorem unS_old (N : Net) {S : List Nat} {x : Nat} (h : x ∈ S) : ∀ n, unS N (S ++ [x]) n = unS N S n
  | 0 => rfl
  | n + 1 => by
    show unS N (S ++ [x]) n + (if n ∈ S ++ [x] then 0 else (kidsAt N n).length) = unS N S n + (if n ∈ S then 0 else (kidsAt N n).length)
    rw [unS_old N h n]
    have m : n ∈ S ++ [x] ↔ n ∈ S := by
      rw [List.mem_append, List.mem_singleton]
      exact ⟨fun z => z.elim id fun e => by rw [e]; exact h, .inl⟩
    by_cases g : n ∈ S
    · rw [if_pos g, if_pos (m.mpr g)]
    · rw [if_neg g, if_neg (fun z => g (m.mp z))]
theorem unS_le {N : Net} (G : Loose N) (S : List Nat) : ∀ n, unS N S n ≤ 49 * n
  | 0 => Nat.le_refl _
  | n + 1 => by
    have ih := unS_le G S n
    have := G.kids_le n
    show unS N S n + (if n ∈ S then 0 else (kidsAt N n).length) ≤ _
    split <;> omega
def spLeads : Sp := fun vs H Q _ => ∃ d N a c, vs = [.ref d, natV a, natV c] ∧ RowsD H d N ∧ Loose N ∧ a < N.length ∧ ∀ H' b, Same H H' → (b = false → ¬ Leads N a c) → Q (.bl b) H'
theorem c__law_leads_to (T : Top mg) (D : Def K mg "_law_leads_to" "_law_leads_to" s__law_leads_to) : Cal P w K mg base 1 "_law_leads_to" spLeads := by
  refine D.cal sc__law_leads_to (fun _ _ _ _ _ _ us hl => match us, hl with | [_, _, _], _ => rfl) (fun vs H Q E h => ?_) fun f cdv A outer s H vs Q E hr hsp => ?_
  · obtain ⟨_, _, _, _, rfl, _⟩ := h; rfl
  have hu := hu_of hr
  have hu64 := hu64_of hr
  refine ⟨_, (pss_cons (ps_set (i := 3) sc__law_leads_to.nd rfl (Or.inl rfl) (pe_lst (pa_cons (pv 1) pa_nil)))
    (pss_cons (ps_set (i := 4) sc__law_leads_to.nd rfl (Or.inl rfl) (pe_lst pa_nil))
    (pss_cons (ps_while PassesOwn.never (pt_cmpR (ned hu64) (pv 3) (pe_lst pa_nil) (nomark _)) (pss_cons (ps_set (i := 5) sc__law_leads_to.nd rfl (Or.inl rfl) (pe_ml0 PySem.F.slot_list_pop PySem.F.type_list_pop mt_pop (pv 3)))
    (pss_cons (ps_if (pt_cmpR op_eq (pv 5) (pv 2) (nomark _)) (pss_one (ps_ret pe_bl)) pss_nil)
    (pss_cons (ps_if (PW.pt (pw_and (pt_cmpR nins (pv 5) (pv 4) (by rfl)) (pw_and1 (pt_not (pt_val (pe_isi (T := "str") rfl T.isinstance rfl T.str (by decide +kernel) (pe_dget hu (pv 0) (pv 5) (fun _ _ => rfl)))))))) (pss_one (ps_expr (pe_ml PySem.F.slot_list_extend PySem.F.type_list_extend mt_extend (pv 3) (pa_cons (pe_dget hu (pv 0) (pv 5) (fun _ _ => rfl)) pa_nil)))) pss_nil)
    (pss_one (ps_expr (pe_ml PySem.F.slot_list_append PySem.F.type_list_append mt_append (pv 4) (pa_cons (pv 5) pa_nil))))))))
    (pss_one (ps_ret pe_bl))))), ?_⟩
  obtain ⟨d, N, a, c, rfl, hR, G, ha, q⟩ := hsp
  have h49 := G.len
  refine ⟨_, rfl, small (show 1 ≤ 10000 by decide), fun l hl => ?_⟩
  have S1 := same_upd (o := .lst [natV a]) hl
  have hl1 : upd H l (.lst [natV a]) l = some (.lst [natV a]) := upd_same
  generalize upd H l (.lst [natV a]) = H1 at S1 hl1 ⊢
  refine ⟨Nat.zero_le _, fun sn hsn => ?_⟩
  have S2 := Same.trans' S1 (same_upd (o := .lst []) hsn)
  have hl2 := same_upd (o := .lst []) hsn _ _ hl1
  have hs2 : upd H1 sn (.lst []) sn = some (.lst []) := upd_same
  have nls : l ≠ sn := fun z => by rw [z, hsn] at hl1; cases hl1
  have sn0 : H sn = none := by
    cases e : H sn with
    | none => rfl
    | some o => rw [S1 _ _ e] at hsn; cases hsn
  generalize upd H1 sn (.lst []) = H2 at S2 hl2 hs2 ⊢
  let W : Nat → L2.St → Hp → Prop := fun m σ H4 => ∃ (L S : List Nat), ∃ s5, σ = [some (.ref d), some (natV a), some (natV c), some (.ref l), some (.ref sn), s5] ∧ Same H H4 ∧ H4 l = some (.lst (L.map natV)) ∧ H4 sn = some (.lst (S.map natV)) ∧ (∀ x ∈ L, x < N.length) ∧ (∀ x ∈ S, x < N.length) ∧ (a ∈ S ∨ a ∈ L) ∧ c ∉ S ∧ (∀ x ∈ S, ∀ k ∈ kidsAt N x, k ∈ S ∨ k ∈ L) ∧ S.length + m ≤ 1 + unS N [] N.length ∧ m = L.length + unS N S N.length
  refine ⟨W, ⟨_, [a], [], _, rfl, S2, hl2, hs2, by simpa using ha, by simp, .inr (by simp), by simp, by simp, by simp, rfl⟩, ?_⟩
  rintro m σ H4 ⟨L, S, s5, rfl, S4, hl4, hs4, hL, hS, haS, hc, hcl, hm, rfl⟩
  have hun := unS_le G [] N.length
  refine ⟨_, rfl, Nat.zero_le _, fun q1 hq1 => ⟨_, _, dq_nats ((same_upd hq1) _ _ hl4), dq_nil upd_same, shaped_nats _, by decide, ?_⟩⟩
  have S5 := Same.trans' S4 (same_upd (o := .lst []) hq1)
  have hl5 := (same_upd (o := .lst []) hq1) _ _ hl4
  have hs5 := (same_upd (o := .lst []) hq1) _ _ hs4
  generalize upd H4 q1 (.lst []) = H5 at S5 hl5 hs5 ⊢
  rw [ne_nil_nats]
  refine ⟨_, rfl, ?_⟩
  rcases List.eq_nil_or_concat L with e | ⟨L0, x, e⟩
  · subst e
    refine iteF (q _ false S5 fun _ ⟨m, hp⟩ => ?_)
    have haS : a ∈ S := haS.elim id fun z => by cases z
    have cl : ∀ {i m j}, Dn N i m j → i ∈ S → j ∈ S := fun {i m j} h => by
      induction h with
      | refl => exact id
      | step hk _ ih => exact fun hi => ih ((hcl _ hi _ hk).elim id fun z => by cases z)
    exact hc (cl hp haS)
  · rw [List.concat_eq_append] at e
    subst e
    have hne : (L0 ++ [x]).isEmpty = false := by cases L0 <;> rfl
    rw [hne]
    refine iteT ⟨_, fun σ' H' h => h, ?_⟩
    have hx : x < N.length := hL x (by simp)
    have hl5' : H5 l = some (.lst (L0.map natV ++ [natV x])) := by
      rw [List.map_append] at hl5
      exact hl5
    refine ⟨_, rfl, ⟨l, _, rfl, hl5'⟩, l, _, natV x, rfl, rfl, hl5', by simp, ?_⟩
    rw [List.dropLast_concat]
    have S6 : Same H (upd H5 l (.lst (L0.map natV))) := fun b o e => by
      rw [upd_ne (ne_of_none e hl)]
      exact S5 _ _ e
    have hl6 : upd H5 l (.lst (L0.map natV)) l = some (.lst (L0.map natV)) := upd_same
    have hs6 : upd H5 l (.lst (L0.map natV)) sn = some (.lst (S.map natV)) := by rw [upd_ne (Ne.symm nls)]; exact hs5
    generalize upd H5 l (.lst (L0.map natV)) = H6 at S6 hl6 hs6 ⊢
    refine ⟨_, rfl, _, rfl, rfl, _, rfl, ite2 (fun hxc => ?_) fun hxc => ?_⟩
    · exact q _ true S6 (fun z => by cases z)
    · have hxc : x ≠ c := fun z => hxc (by rw [z]; exact decide_eq_true rfl)
      have slen : S.length ≤ 2402 := by omega
      have llen : L0.length ≤ 2402 := by
        rw [List.length_append] at hm
        omega
      have fin : ∀ (H7 : Hp) (L' : List Nat), Same H H7 → H7 l = some (.lst (L'.map natV)) → H7 sn = some (.lst (S.map natV)) → L'.length + unS N (S ++ [x]) N.length + 1 ≤ (L0 ++ [x]).length + unS N S N.length → (∀ y ∈ L', y < N.length) → (∀ y ∈ L0, y ∈ L') → (∀ k ∈ kidsAt N x, k ∈ S ∨ k ∈ L') →
          ∃ m', m' < (L0 ++ [x]).length + unS N S N.length ∧ W m' [some (.ref d), some (natV a), some (natV c), some (.ref l), some (.ref sn), some (natV x)] (upd H7 sn (.lst (S.map natV ++ [natV x]))) := by
        intro H7 L' S7 hl7 hs7 hlen hL' hsub hk
        refine ⟨_, (by omega : L'.length + unS N (S ++ [x]) N.length < _), L', S ++ [x], _, rfl, fun b o e => ?_, ?_, ?_, hL', fun y hy => ?_, ?_, ?_, fun y hy k hk' => ?_, ?_, rfl⟩
        · rw [upd_ne (ne_of_none e sn0)]
          exact S7 _ _ e
        · rw [upd_ne nls]
          exact hl7
        · rw [upd_same, List.map_append]
          rfl
        · rcases List.mem_append.mp hy with h | h
          · exact hS y h
          · rw [List.mem_singleton.mp h]
            exact hx
        · rcases haS with h | h
          · exact .inl (List.mem_append_left _ h)
          · rcases List.mem_append.mp h with h | h
            · exact .inr (hsub _ h)
            · exact .inl (List.mem_append_right _ h)
        · intro z
          rcases List.mem_append.mp z with h | h
          · exact hc h
          · exact hxc (List.mem_singleton.mp h).symm
        · rcases List.mem_append.mp hy with h | h
          · rcases hcl y h k hk' with g | g
            · exact .inl (List.mem_append_left _ g)
            · rcases List.mem_append.mp g with g | g
              · exact .inr (hsub _ g)
              · exact .inl (List.mem_append_right _ g)
          · rw [List.mem_singleton.mp h] at hk'
            rcases hk k hk' with g | g
            · exact .inl (List.mem_append_left _ g)
            · exact .inr g
        · rw [List.length_append] at hm hlen ⊢
          simp only [List.length_singleton] at *
          omega
      obtain ⟨r, er⟩ := row_ex hx
      obtain ⟨v, gv, rv⟩ := (hR.up S6).at er
      refine ⟨_, rfl, _, rfl, sn, _, rfl, .inl hs6, rfl, flat_nats _, _, rfl, ?_⟩
      rw [show (if true = true then !inV (natV x) (S.map natV) else inV (natV x) (S.map natV)) = !decide (x ∈ S) by rw [if_pos rfl, inV_nats]]
      have hS0 : (S.map natV).length < sizeLine := by rw [nats_len]; exact smallT (by omega)
      by_cases hxS : x ∈ S
      · rw [decide_eq_true hxS]
        refine iteF (iteF ?_)
        refine ⟨_, rfl, ⟨sn, _, rfl, hs6⟩, _, rfl, sn, _, natV x, rfl, rfl, hs6, hS0, fin _ L0 S6 hl6 hs6 ?_ (fun y hy => hL y (List.mem_append_left _ hy)) (fun _ h => h) fun k hk => ?_⟩
        · rw [unS_old N hxS, List.length_append]
          simp
          omega
        · rcases hcl x hxS k hk with g | g
          · exact .inl g
          · rcases List.mem_append.mp g with g | g
            · exact .inr g
            · rw [List.mem_singleton.mp g]
              exact .inl hxS
      · rw [decide_eq_false hxS]
        refine iteT ?_
        have un := unS_new N hxS N.length
        rw [if_pos hx] at un
        cases r with
        | leaf z =>
          have hv : v = .str z := rv
          subst hv
          refine ⟨_, rfl, _, rfl, d, _, rfl, gv, _, _, .str z, k_ss, _, rfl, iteF ?_⟩
          refine ⟨_, rfl, ⟨sn, _, rfl, hs6⟩, _, rfl, sn, _, natV x, rfl, rfl, hs6, hS0, fin _ L0 S6 hl6 hs6 ?_ (fun y hy => hL y (List.mem_append_left _ hy)) (fun _ h => h) fun k hk => ?_⟩
          · rw [List.length_append]
            simp
            omega
          · rw [kidsAt_some er] at hk
            cases hk
        | _ =>
          obtain ⟨lr, rfl, _, hlr⟩ := rv
          have hlr' : H6 lr = some (.lst ((kidsAt N x).map natV)) := by
            rw [kidsAt_some er]
            exact hlr
          have kle := G.kids_le x
          refine ⟨_, rfl, _, rfl, d, _, rfl, gv, _, _, .lst hlr, k_ls, _, rfl, iteT ?_⟩
          refine ⟨_, rfl, ⟨l, _, rfl, hl6⟩, _, rfl, _, rfl, d, _, rfl, gv, l, lr, _, _, rfl, rfl, hl6, hlr', by rw [nats_len, nats_len]; exact small (by omega), ?_⟩
          have S7 : Same H (upd H6 l (.lst (L0.map natV ++ (kidsAt N x).map natV))) := fun b o e => by
            rw [upd_ne (ne_of_none e hl)]
            exact S6 _ _ e
          have hs7 : upd H6 l (.lst (L0.map natV ++ (kidsAt N x).map natV)) sn = some (.lst (S.map natV)) := by rw [upd_ne (Ne.symm nls)]; exact hs6
          refine ⟨_, rfl, ⟨sn, _, rfl, hs7⟩, _, rfl, sn, _, natV x, rfl, rfl, hs7, hS0, fin _ (L0 ++ kidsAt N x) S7 (by rw [upd_same, List.map_append]) hs7 ?_ (fun y hy => ?_) (fun _ h => List.mem_append_left _ h) fun k hk => .inr (List.mem_append_right _ hk)⟩
          · rw [List.length_append, List.length_append]
            simp
            omega
          · rcases List.mem_append.mp hy with h | h
            · exact hL y (List.mem_append_left _ h)
            · exact G.lt x y h
end
end JT
/-! A3: the law's forks and trees. -/
namespace JT
open PySem PySem.Spec PyProof.Rows L2 PySem.W
abbrev s__law_least : Stmt := topS 60
abbrev n__law_least : List Str := ["_law_tree_here"]
theorem sc__law_least : FnScope n__law_least ["_law_tree_here"] (defScope s__law_least) :=
  ⟨rfl, rfl, rfl, by decide +kernel, rfl, by decide +kernel, by decide +kernel⟩
abbrev s__law_fork : Stmt := topS 61
abbrev n__law_fork : List Str := ["_law_parts", "_law_order", "_law_k", "_law_part", "_law_least_here"]
theorem sc__law_fork : FnScope n__law_fork ["_law_parts"] (defScope s__law_fork) :=
  ⟨rfl, rfl, rfl, by decide +kernel, rfl, by decide +kernel, by decide +kernel⟩
section
variable {P : Program} {w : World} {K : PySem.W.Frag} {mg : Str → Option Value} {base : Heap}
theorem c__law_least (T : Top mg) (D : Def K mg "_law_least" "_law_least" s__law_least) : Cal P w K mg base 1 "_law_least" spFirst := by
  refine D.cal sc__law_least (fun _ _ _ _ _ _ us hl => match us, hl with | [_], _ => rfl) (fun vs H Q E h => ?_) fun f cdv A outer s H vs Q E hr hsp => ?_
  · obtain ⟨_, _, rfl, _⟩ := h; rfl
  have hu := hu_of hr
  refine ⟨_, (pss_cons (ps_while PassesOwn.never (pt_not (pt_val (pe_isi (T := "str") rfl T.isinstance rfl T.str (by decide +kernel) (pv 0)))) (pss_one (ps_set (i := 0) sc__law_least.nd rfl (Or.inl rfl) (pe_ix ixt (pv 0) pe_int (fun _ _ => rfl)))))
    (pss_one (ps_ret (pv 0)))), ?_⟩
  obtain ⟨v, t, rfl, hd, hf, q⟩ := hsp
  refine ⟨fun m σ H' => ∃ v u, σ = [some v] ∧ H' = H ∧ DT H v (encT u) ∧ Full u ∧ firstT u = firstT t ∧ m = hT u, ⟨_, v, t, rfl, rfl, hd, hf, rfl, rfl⟩, ?_⟩
  rintro m σ H' ⟨v, u, rfl, rfl, hd, hf, he, rfl⟩
  cases u with
  | leaf z =>
    rw [hd.of_str]
    refine ⟨_, rfl, _, _, .str z, k_ss, ⟨_, rfl, iteF ?_⟩⟩
    exact ⟨_, rfl, by rw [show z = firstT t from he]; exact q⟩
  | node ts =>
    obtain ⟨a, xs, rfl, ha, hs⟩ := DT.of_tup hd
    refine ⟨_, rfl, _, _, .tup ha, k_ts, ⟨_, rfl, iteT ?_⟩⟩
    obtain ⟨hne, hfs⟩ := hf
    cases ts with
    | nil => exact absurd rfl hne
    | cons u us =>
      cases hs with
      | cons h1 h2 =>
        refine ⟨_, fun σ' H' h => h, ?_⟩
        refine ⟨_, rfl, _, _, 0, _, rfl, rfl, ha, atI_nat (j := 0) rfl, ?_⟩
        exact ⟨hT u, Nat.lt_succ_of_le (hTs_le (by simp)), _, u, rfl, rfl, h1, hfs.1, he, rfl⟩
/-- parts joined to one tree, in any order -/
def JoinedP (ts : List Tree) (u : Tree) : Prop := (∃ t, ts = [t] ∧ u = t) ∨ (2 ≤ ts.length ∧ ∃ us : List Tree, us.Perm ts ∧ u = .node us)
def idxIn (H : Hp) : V → Nat
  | .ref r => match H r with
    | some (.tup [_, .int k]) => k.toNat
    | _ => 0
  | _ => 0
theorem idxIn_eq {H : Hp} {r : Addr} {y : V} {i : Nat} (h : H r = some (.tup [y, natV i])) : idxIn H (.ref r) = i := by
  unfold idxIn
  simp only [h]
  rfl
def spLFork : Sp := fun vs H Q _ => ∃ a xs ts, vs = [.ref a] ∧ H a = some (.lst xs) ∧ DTs H xs (encTs ts) ∧ ts ≠ [] ∧ Fulls ts ∧ ts.length ≤ 1000 ∧ ∀ H' v u, Same H H' → DT H' v (encT u) → JoinedP ts u → Q v H'
theorem c__law_fork (T : Top mg) (D : Def K mg "_law_fork" "_law_fork" s__law_fork) (C__law_least : Cal P w K mg base 1 "_law_least" spFirst) : Cal P w K mg base 2 "_law_fork" spLFork := by
  refine D.cal sc__law_fork (fun _ _ _ _ _ _ us hl => match us, hl with | [_], _ => rfl) (fun vs H Q E h => ?_) fun f cdv A outer s H vs Q E hr hsp => ?_
  · obtain ⟨_, _, _, rfl, _⟩ := h; rfl
  have hu := hu_of hr
  refine ⟨_, (pss_cons (ps_if (pt_cmpR op_eq (pe_callB lenq rfl T.len PySem.boot_len (pa_cons (pv 0) pa_nil)) pe_int (nomark _)) (pss_one (ps_ret (pe_ix ixl (pv 0) pe_int (fun _ _ => rfl)))) pss_nil)
    (pss_cons (ps_set (i := 1) sc__law_fork.nd rfl (Or.inl rfl) (pe_callB (cr_sortedData hr) rfl T.sorted (by decide +kernel) (pa_cons (pe_lc (own := [("_law_k", 2), ("_law_part", 3)]) (tt := tYes) rfl sc__law_fork.nd (pi_enum rfl T.enumerate (pa_cons (pv 0) pa_nil)) (blkOk_by (own := [("_law_k", 2), ("_law_part", 3)]) (N := n__law_fork) (sc := defScope s__law_fork) (by decide +kernel)) (fun _ _ _ _ _ => (pgt (n := 2) rfl (pgs_cons (pg_name (i := 2) sc__law_fork.nd rfl (Or.inl rfl)) (pgs_cons (pg_name (i := 3) sc__law_fork.nd rfl (Or.inl rfl)) pgs_nil)))) (fun _ _ _ _ _ => pts_nil) (fun _ _ _ _ _ => (pe_tup (pa_cons (pe_f C__law_least hr rfl (pa_cons (pv 3) pa_nil)) (pa_cons (pv 2) pa_nil))))) pa_nil)))
    (pss_one (ps_ret (pe_callTy tupOf rfl T.tuple (by decide +kernel) (pa_cons (pe_lc (own := [("_law_least_here", 4), ("_law_k", 2)]) (tt := tYes) rfl sc__law_fork.nd (pi_listK K (pv 1)) (blkOk_by (own := [("_law_least_here", 4), ("_law_k", 2)]) (N := n__law_fork) (sc := defScope s__law_fork) (by decide +kernel)) (fun _ _ _ _ _ => (pgt (n := 2) rfl (pgs_cons (pg_name (i := 4) sc__law_fork.nd rfl (Or.inl rfl)) (pgs_cons (pg_name (i := 2) sc__law_fork.nd rfl (Or.inl rfl)) pgs_nil)))) (fun _ _ _ _ _ => pts_nil) (fun _ _ _ _ _ => (pe_ix ixl (pv 0) (pv 2) (fun _ _ => rfl)))) pa_nil)))))), ?_⟩
  obtain ⟨a, xs, ts, rfl, ha, hs, hne, hf, hl, q⟩ := hsp
  have hlen : xs.length = ts.length := hs.length.trans (encTs_length ts)
  refine ⟨_, rfl, a, xs, rfl, .inl ha, ⟨rfl, _, rfl, ?_⟩⟩
  by_cases h1 : xs.length = 1
  · refine iteP (by rw [h1]; rfl) ?_
    obtain ⟨x, rfl⟩ := List.length_eq_one_iff.mp h1
    obtain ⟨t, rfl⟩ := List.length_eq_one_iff.mp (hlen.symm.trans h1)
    cases hs with
    | cons h0 _ =>
      exact ⟨_, rfl, a, _, 0, x, rfl, rfl, ha, atI_nat (j := 0) rfl, q _ _ _ (Same.refl' _) h0 (.inl ⟨t, rfl, rfl⟩)⟩
  · refine iteN (fun z => h1 (by injection z with z; omega)) ?_
    let fs : Nat → Str := fun i => firstT (ts.getD i (.leaf ""))
    refine ⟨_, rfl, a, xs, rfl, sl_at ha, fun D hD => ?_⟩
    refine lc_rel (n := xs.length) (fun i y H2 => ∃ r, y = .ref r ∧ H2 r = some (.tup [.str (fs i), natV i])) (fun i y H2 H3 tk ⟨r, e, h⟩ => ⟨r, e, tk _ _ h (.inl ⟨_, rfl⟩)⟩) hD (by omega) (fun i H2 hi S2 => ?_) (fun H2 S2 => ?_) (fun i H2 x H3 Kt Kf hi S2 hy hKt => ?_) fun H2 ys S2 hys hyl hyR => ?_
    · exact ⟨_, _, sl_at (S2 _ _ ha), List.getElem?_eq_getElem hi⟩
    · exact ⟨_, sl_at (S2 _ _ ha), by omega⟩
    · obtain ⟨t, y, rfl, ht, rfl, hx⟩ := hy
      have hx := hx _ (sl_at (S2 _ _ ha))
      obtain ⟨tr, e2, tm, hd1⟩ := part_at hs hx
      have S3 : Same H2 (upd H2 t (.tup [.int (i : Nat), y])) := same_upd ht
      refine ⟨t, _, rfl, upd_same, rfl, _, _, rfl, _, _, rfl, rfl, rfl, ?_⟩
      generalize upd H2 t (.tup [.int (i : Nat), y]) = H3 at S3 ⊢
      refine ⟨_, rfl, y, tr, rfl, hd1.up (Same.tk (Same.trans' S2 S3)), Fulls_iff.mp hf _ tm, _, rfl, small (show 2 ≤ 10000 by decide), fun r hr2 => hKt _ _ (Same.trans' S3 (same_upd hr2)) ⟨r, rfl, ?_⟩⟩
      have : fs i = firstT tr := by
        show firstT (ts.getD i (.leaf "")) = _
        rw [List.getD_eq_getElem?_getD, e2]
        rfl
      rw [this, upd_same]
      rfl
    · have hys1 : ∀ y ∈ ys, ∃ i r, y = .ref r ∧ H2 r = some (.tup [.str (fs i), natV i]) ∧ idxIn H2 y = i := fun y hy => by
        obtain ⟨i, hi⟩ := List.mem_iff_getElem?.mp hy
        obtain ⟨r, e, h⟩ := hyR i y hi
        exact ⟨i, r, e, h, by rw [e]; exact idxIn_eq h⟩
      refine ⟨D, ys, fun y => .tuple [.str (fs (idxIn H2 y)), .int (idxIn H2 y : Nat)], rfl, .inl (.inl hys), fun y hy => ?_, ?_, ?_, fun y hy => (by decide : 1 ≤ 30), fun p hp => ?_⟩
      · obtain ⟨i, r, e, h, e2⟩ := hys1 y hy
        dsimp only
        rw [e2, e]
        exact DT.dp _ _ (.tup h (.cons (.str _) (.cons (.int _) .nil)))
      · intro x hx y hy
        obtain ⟨v1, _, rfl⟩ := List.mem_map.mp hx
        obtain ⟨v2, _, rfl⟩ := List.mem_map.mp hy
        rfl
      · refine .inl fun x hx => ?_
        obtain ⟨v1, _, rfl⟩ := List.mem_map.mp hx
        exact ⟨_, _, rfl⟩
      · have pm := List.mergeSort_perm ys (dataLe false fun y => .tuple [.str (fs (idxIn H2 y)), .int (idxIn H2 y : Nat)])
        generalize ys.mergeSort (dataLe false fun y => .tuple [.str (fs (idxIn H2 y)), .int (idxIn H2 y : Nat)]) = zs at pm ⊢
        have po : (zs.map (idxIn H2)).Perm (List.range xs.length) := by
          have e : ys.map (idxIn H2) = List.range xs.length := by
            apply List.ext_getElem
            · simp [hyl]
            · intro j h1 h2
              simp at h1
              obtain ⟨r, e, h⟩ := hyR j ys[j] (List.getElem?_eq_getElem h1)
              simp [e, idxIn_eq h]
          rw [← e]
          exact pm.map _
        have hzl : zs.length = xs.length := by rw [pm.length_eq, hyl]
        have S3 : Same H (upd H2 p (.lst zs)) := Same.trans' S2 (same_upd hp)
        have hp3 : upd H2 p (.lst zs) p = some (.lst zs) := upd_same
        have hz3 : ∀ y ∈ zs, ∃ r, y = .ref r ∧ upd H2 p (.lst zs) r = some (.tup [.str (fs (idxIn H2 y)), natV (idxIn H2 y)]) := fun y hy => by
          obtain ⟨i, r, e, h, e2⟩ := hys1 y (pm.mem_iff.mp hy)
          rw [e2]
          exact ⟨r, e, (same_upd hp) _ _ h⟩
        generalize upd H2 p (.lst zs) = H3 at S3 hp3 hz3 ⊢
        refine ⟨_, rfl, p, rfl, ⟨_, sl_at hp3⟩, fun D2 hD2 => ?_⟩
        refine lc_map (n := xs.length) (fun _ => true) (fun j => xs.getD ((zs.map (idxIn H2)).getD j 0) .non) hD2 (by omega) (fun j H6 hj hS => go_lst (hS _ _ hp3) (by omega)) (fun H6 hS => st_lst (hS _ _ hp3) (by omega)) (fun j H6 z H7 Kt Kf hj hS hz hKt hKf => ?_) fun H6 hS6 hl6 => ?_
        · obtain ⟨rfl, hz⟩ := hz
          have hz := hz _ (sl_at (hS _ _ hp3))
          obtain ⟨r, e, h⟩ := hz3 z (List.mem_of_getElem? hz)
          have h7 := hS _ _ h
          have ek : (zs.map (idxIn H2)).getD j 0 = idxIn H2 z := by
            rw [List.getD_eq_getElem?_getD, List.getElem?_map, hz]
            rfl
          have hk : idxIn H2 z < xs.length := by
            have : idxIn H2 z ∈ zs.map (idxIn H2) := List.mem_map_of_mem (List.mem_of_getElem? hz)
            exact List.mem_range.mp (po.mem_iff.mp this)
          rw [ek] at hKt
          generalize idxIn H2 z = kk at h7 hk hKt
          subst e
          refine ⟨r, _, rfl, h7, rfl, _, _, rfl, _, _, rfl, rfl, rfl, ?_⟩
          refine ⟨_, rfl, _, rfl, a, xs, (kk : Int), xs.getD kk .non, rfl, rfl, hS _ _ (S3 _ _ ha), atI_nat ?_, hKt rfl _ (Same.refl' _)⟩
          rw [List.getElem?_eq_getElem hk, List.getD_eq_getElem?_getD, List.getElem?_eq_getElem hk]
          rfl
        · rw [kept_all] at hl6
          refine ⟨D2, _, rfl, hl6, fun l hl7 => ?_⟩
          have S7 : Same H (upd H6 l (.tup ((List.range xs.length).map fun j => xs.getD ((zs.map (idxIn H2)).getD j 0) .non))) := Same.trans' S3 (Same.trans' hS6 (same_upd hl7))
          refine q _ _ (.node ((zs.map (idxIn H2)).map fun k => ts.getD k (.leaf ""))) S7 (.tup upd_same (DTs.of_get ?_ fun i v d e1 e2 => ?_)) (.inr ⟨?_, _, ?_, rfl⟩)
          · simp [encTs_length, hzl]
          · rw [encTs_map, List.getElem?_map, List.getElem?_map] at e2
            obtain ⟨t', e3, rfl⟩ := Option.map_eq_some_iff.mp e2
            obtain ⟨k, e4, rfl⟩ := Option.map_eq_some_iff.mp e3
            clear e2 e3
            have e2 := e4
            clear e4
            rw [List.getElem?_map] at e1
            obtain ⟨i', e5, rfl⟩ := Option.map_eq_some_iff.mp e1
            clear e1
            have hi := (List.getElem?_eq_some_iff.mp e5)
            obtain ⟨hi, ei⟩ := hi
            simp at ei hi
            subst ei
            have hk : k < xs.length := List.mem_range.mp (po.mem_iff.mp (List.mem_of_getElem? e2))
            have ek : (zs.map (idxIn H2)).getD i 0 = k := by
              rw [List.getD_eq_getElem?_getD, e2]
              rfl
            rw [ek]
            have ex : xs[k]? = some (xs.getD k .non) := by
              rw [List.getD_eq_getElem?_getD, List.getElem?_eq_getElem hk]
              rfl
            obtain ⟨tr, e3, _, hd1⟩ := part_at hs ex
            have : ts.getD k (.leaf "") = tr := by rw [List.getD_eq_getElem?_getD, e3]; rfl
            rw [this]
            exact hd1.up (Same.tk S7)
          · have : ts.length ≠ 0 := fun z => hne (List.length_eq_zero_iff.mp z)
            omega
          · have e : (List.range xs.length).map (fun k => ts.getD k (.leaf "")) = ts := by
              rw [hlen]
              apply List.ext_getElem
              · simp
              · intro j h1 h2
                simp [List.getElem?_eq_getElem h2]
            have z := po.map fun k => ts.getD k (.leaf "")
            rw [e] at z
            exact z
end
end JT
/-! A4: the law's drawn trees. -/
namespace JT
open PySem PySem.Spec PyProof.Rows L2 PySem.W
abbrev s__law_tree : Stmt := topS 62
abbrev n__law_tree : List Str := ["_law_pen_here", "_law_names_here", "_law_wide", "_law_left", "_law_many", "_law_parts", "_law_k"]
theorem sc__law_tree : FnScope n__law_tree ["_law_pen_here", "_law_names_here", "_law_wide"] (defScope s__law_tree) :=
  ⟨rfl, rfl, rfl, by decide +kernel, rfl, by decide +kernel, by decide +kernel⟩
section
variable {P : Program} {w : World} {K : PySem.W.Frag} {mg : Str → Option Value} {base : Heap}
def spLTree : Sp := fun vs H Q _ => ∃ (p pq l : Addr) (n : Nat) (wd : Int) (ys : List Str), vs = [.ref p, .ref l, .int wd] ∧ PenAt H p pq n ∧ n + 100 ≤ 100000 ∧ 0 ≤ wd ∧ wd ≤ 1 ∧ H l = some (.lst (ys.map V.str)) ∧ 1 ≤ ys.length ∧ ys.length ≤ 12 ∧
  ∀ H' v t, But p H H' → PenAt H' p pq (n + 100) → DT H' v (encT t) → Bin t → (namesT t).Perm ys → Q v H'
theorem namesTs_app (a b : List Tree) : namesTs (a ++ b) = namesTs a ++ namesTs b := by
  rw [namesTs_flat, namesTs_flat, namesTs_flat, List.flatMap_append]
theorem dts_erase {H : Hp} : ∀ {vs : List V} {ds : List PyData} {k : Nat}, DTs H vs ds → DTs H (vs.eraseIdx k) (ds.eraseIdx k)
  | _, _, _, .nil => .nil
  | _, _, 0, .cons _ h => h
  | _, _, k + 1, .cons h t => .cons h (dts_erase t)
theorem namesTs_pop {ts : List Tree} {k : Nat} {t : Tree} (h : ts[k]? = some t) : (namesT t ++ namesTs (ts.eraseIdx k)).Perm (namesTs ts) := namesTs_perm (erase_perm h)
theorem But.of' {p b : Addr} {H H' : Hp} {o : HO} (h : But p H H') (n : H b = none) : But p H (upd H' b o) := fun c u hc e => by
  rw [upd_ne (ne_of_none e n)]
  exact h c u hc e
theorem JoinedP.names {ts : List Tree} {u : Tree} (h : JoinedP ts u) : (namesT u).Perm (namesTs ts) := by
  rcases h with ⟨t, rfl, rfl⟩ | ⟨_, us, p, rfl⟩
  · simp [namesTs]
  · exact namesTs_perm p
theorem JoinedP.bin {ts : List Tree} {u : Tree} (h : JoinedP ts u) (b : Bins ts) : Bin u := by
  rcases h with ⟨t, rfl, rfl⟩ | ⟨h2, us, p, rfl⟩
  · exact b.1
  · exact ⟨by rw [p.length_eq]; exact h2, Bins_iff.mpr fun t ht => Bins_iff.mp b t (p.mem_iff.mp ht)⟩
theorem c__law_tree (T : Top mg) (D : Def K mg "_law_tree" "_law_tree" s__law_tree) (C__law_draw : Cal P w K mg base 1 "_law_draw" spDraw) (C__law_fork : Cal P w K mg base 2 "_law_fork" spLFork) : Cal P w K mg base 3 "_law_tree" spLTree := by
  have C__law_draw := C__law_draw.mono (show 1 ≤ 2 by decide)
  refine D.cal sc__law_tree (fun _ _ _ _ _ _ us hl => match us, hl with | [_, _, _], _ => rfl) (fun vs H Q E h => ?_) fun f cdv A outer s H vs Q E hr hsp => ?_
  · obtain ⟨_, _, _, _, _, _, rfl, _⟩ := h; rfl
  have hu := hu_of hr
  refine ⟨_, (pss_cons (ps_set (i := 3) sc__law_tree.nd rfl (Or.inl rfl) (pe_callTy lstOf rfl T.list (by decide +kernel) (pa_cons (pv 1) pa_nil)))
    (pss_cons (ps_while PassesOwn.never (pt_cmpR op_gt (pe_callB lenq rfl T.len PySem.boot_len (pa_cons (pv 3) pa_nil)) pe_int (nomark _)) (pss_cons (ps_set (i := 4) sc__law_tree.nd rfl (Or.inl rfl) (pe_op op_add pe_int (pe_op op_mul (pv 2) (pe_ix ixl (pe_lst (pa_cons pe_int (pa_cons pe_int (pa_cons pe_int (pa_cons (pe_f C__law_draw hr rfl (pa_cons (pv 0) (pa_cons pe_int pa_nil))) pa_nil))))) (pe_f C__law_draw hr rfl (pa_cons (pv 0) (pa_cons pe_int pa_nil))) (fun _ _ => rfl)))))
    (pss_cons (ps_set (i := 5) sc__law_tree.nd rfl (Or.inl rfl) (pe_lst pa_nil))
    (pss_cons (ps_for PassesOwn.never rfl (pi_range1 rfl T.range (pa_cons (pe_callB (call_min2 rfl) rfl T.min (by decide +kernel) (pa_cons (pv 4) (pa_cons (pe_callB lenq rfl T.len PySem.boot_len (pa_cons (pv 3) pa_nil)) pa_nil))) pa_nil)) (pg_name (i := 6) sc__law_tree.nd rfl (Or.inl rfl))
    (pss_one (ps_expr (pe_ml PySem.F.slot_list_append PySem.F.type_list_append mt_append (pv 5) (pa_cons (pe_ml PySem.F.slot_list_pop PySem.F.type_list_pop mt_popAt (pv 3) (pa_cons (pe_ix ixl (pe_lst (pa_cons (pe_f C__law_draw hr rfl (pa_cons (pv 0) (pa_cons (pe_callB lenq rfl T.len PySem.boot_len (pa_cons (pv 3) pa_nil)) pa_nil))) (pa_cons (pe_un un_neg pe_int) pa_nil))) (pe_f C__law_draw hr rfl (pa_cons (pv 0) (pa_cons pe_int pa_nil))) (fun _ _ => rfl)) pa_nil)) pa_nil)))))
    (pss_one (ps_expr (pe_ml PySem.F.slot_list_append PySem.F.type_list_append mt_append (pv 3) (pa_cons (pe_f C__law_fork hr rfl (pa_cons (pv 5) pa_nil)) pa_nil))))))))
    (pss_one (ps_ret (pe_ix ixl (pv 3) pe_int (fun _ _ => rfl)))))), ?_⟩
  obtain ⟨p, pq, l, n, wd, ys, rfl, hp, hn, hw0, hw1, hl, hy1, hy2, q⟩ := hsp
  refine ⟨_, rfl, l, _, rfl, .inl hl, fun a ha => ?_⟩
  have S1 := same_upd (o := .lst (ys.map V.str)) ha
  have ha1 : upd H a (.lst (ys.map V.str)) a = some (.lst (ys.map V.str)) := upd_same
  have hp1 := hp.up S1
  have nap := hp.new ha
  have B1 : But p H (upd H a (.lst (ys.map V.str))) := But.of S1
  have d1 : DTs (upd H a (.lst (ys.map V.str))) (ys.map V.str) (encTs (ys.map Tree.leaf)) := by
    have e : encTs (ys.map Tree.leaf) = ys.map PyData.str := by
      rw [encTs_map, List.map_map]
      rfl
    rw [e]
    exact DTs.strs ys
  have nm1 : namesTs (ys.map Tree.leaf) = ys := by
    rw [namesTs_flat, List.flatMap_map]
    simp [namesT]
  have bn1 : Bins (ys.map Tree.leaf) := Bins_iff.mpr fun t ht => by
    obtain ⟨z, _, rfl⟩ := List.mem_map.mp ht
    trivial
  generalize upd H a (.lst (ys.map V.str)) = H1 at S1 ha1 hp1 B1 d1 ⊢
  refine ⟨fun m σ H2 => ∃ (vs : List V) (ts : List Tree) (c : Nat), ∃ s4 s5 s6, σ = [some (.ref p), some (.ref l), some (.int wd), some (.ref a), s4, s5, s6] ∧ But p H H2 ∧ H2 a = some (.lst vs) ∧ DTs H2 vs (encTs ts) ∧ Bins ts ∧ (namesTs ts).Perm ys ∧ 1 ≤ ts.length ∧ PenAt H2 p pq c ∧ c + 6 * ts.length ≤ n + 6 * ys.length ∧ m = ts.length,
    ⟨_, _, _, n, _, _, _, rfl, B1, ha1, d1, bn1, by rw [nm1], by rw [List.length_map]; exact hy1, hp1, by rw [List.length_map]; exact Nat.le_refl _, rfl⟩, ?_⟩
  rintro m σ H2 ⟨vs, ts, c, s4, s5, s6, rfl, B2, ha2, d2, bn2, nm2, hl2, hp2, hc2, rfl⟩
  have vl : vs.length = ts.length := d2.length.trans (encTs_length ts)
  have tl12 : ts.length ≤ 12 := by
    have z := nm2.length_eq
    have : ∀ us : List Tree, Bins us → us.length ≤ (namesTs us).length := fun us h => by
      induction us with
      | nil => exact Nat.zero_le _
      | cons u us ih =>
        have h1 := names_pos u (Bin.full u h.1)
        have h2 := ih h.2
        simp only [namesTs, List.length_append, List.length_cons]
        omega
    have := this ts bn2
    omega
  refine ⟨_, rfl, a, vs, rfl, .inl ha2, _, 1, rfl, rfl, _, rfl, ite2 (fun hgt => ?_) fun hle => ?_⟩
  · have hgt := of_decide_eq_true hgt
    have hgt : 2 ≤ ts.length := by omega
    refine ⟨_, fun σ' H' h => h, ?_⟩
    refine ⟨_, rfl, _, rfl, p, pq, c, 3, rfl, hp2, by omega, by decide, by decide, fun H3 r3 b3 p3 r30 r31 => ⟨small (show 4 ≤ 10000 by decide), fun t3 ht3 => ?_⟩⟩
    have ht3' : upd H3 t3 (.lst [.int 0, .int 0, .int 1, .int r3]) t3 = some (.lst [.int 0, .int 0, .int 1, .int r3]) := upd_same
    have B3 : But p H (upd H3 t3 (.lst [.int 0, .int 0, .int 1, .int r3])) := (B2.trans' b3).trans' (But.of (same_upd ht3))
    have p3' := p3.up (same_upd (o := .lst [.int 0, .int 0, .int 1, .int r3]) ht3)
    have B23 : But p H2 (upd H3 t3 (.lst [.int 0, .int 0, .int 1, .int r3])) := b3.trans' (But.of (same_upd ht3))
    generalize upd H3 t3 (.lst [.int 0, .int 0, .int 1, .int r3]) = H3 at ht3' B3 p3' B23 ⊢
    refine ⟨_, rfl, p, pq, c + 1, 4, rfl, p3', by omega, by decide, by decide, fun H4 r4 b4 p4 r40 r41 => ?_⟩
    have nt3p : t3 ≠ p := p3'.ne ht3'
    obtain ⟨z, hz, hz0, hz1⟩ : ∃ z : Int, atI [V.int 0, V.int 0, V.int 1, V.int r3] r4 = some (.int z) ∧ 0 ≤ z ∧ z ≤ 2 := by
      have : r4 = 0 ∨ r4 = 1 ∨ r4 = 2 ∨ r4 = 3 := by omega
      rcases this with e | e | e | e <;> subst e
      · exact ⟨0, atI_nat (j := 0) rfl, by omega, by omega⟩
      · exact ⟨0, atI_nat (j := 1) rfl, by omega, by omega⟩
      · exact ⟨1, atI_nat (j := 2) rfl, by omega, by omega⟩
      · exact ⟨r3, atI_nat (j := 3) rfl, by omega, by omega⟩
    refine ⟨t3, _, r4, .int z, rfl, rfl, b4 _ _ nt3p ht3', hz, _, _, rfl, rfl, .inr ⟨by omega, by omega⟩, _, _, rfl, rfl, ?_⟩
    have hM : 0 ≤ wd * z := Int.mul_nonneg hw0 hz0
    generalize wd * z = M at hM
    have B24 : But p H2 H4 := B23.trans' b4
    have nap2 : a ≠ p := hp2.ne ha2
    refine ⟨Nat.zero_le _, fun b hb => ?_⟩
    have S5 := same_upd (o := .lst []) hb
    have hb5 : upd H4 b (.lst []) b = some (.lst []) := upd_same
    have ha4 := B24 _ _ nap2 ha2
    have nba : b ≠ a := fun z => by rw [z, ha4] at hb; cases hb
    have ha5 := S5 _ _ ha4
    have p5 := p4.up S5
    have B5 : But p H (upd H4 b (.lst [])) := (B2.trans' B24).trans' (But.of S5)
    have tk24 : TK H2 H4 := fun b' u e t => B24 b' u (fun z => by
      subst z
      obtain ⟨o, h⟩ := hp2.kd
      rw [h] at e
      cases e
      exact no_dK t) e
    have d5 := d2.up (TK.trans tk24 (Same.tk S5))
    have nbp := p4.new hb
    have nap5 := hp.new ha
    generalize upd H4 b (.lst []) = H5 at S5 hb5 ha5 p5 B5 d5 ⊢
    obtain ⟨mm, hmm, hm2, hm1⟩ : ∃ mm : Nat, (if ((vs.length : Nat) : Int) < 2 + M then ((vs.length : Nat) : Int) else 2 + M) = (mm : Int) ∧ 2 ≤ mm ∧ mm ≤ ts.length := by
      by_cases hc : ((vs.length : Nat) : Int) < 2 + M
      · rw [if_pos hc]
        exact ⟨vs.length, rfl, by omega, by omega⟩
      · rw [if_neg hc]
        exact ⟨(2 + M).toNat, by omega, by omega, by omega⟩
    refine ⟨_, rfl, _, rfl, a, _, rfl, .inl ha5, _, _, rfl, ?_⟩
    rw [hmm]
    refine ⟨_, rfl, by omega, by omega, ?_⟩
    rw [show ((mm : Nat) : Int).toNat = mm from rfl]
    refine for_gen (n := mm) (fun i σ H6 => (∃ s6, σ = [some (.ref p), some (.ref l), some (.int wd), some (.ref a), some (.int (2 + M)), some (.ref b), s6]) ∧ But p H H6 ∧ ∃ vs ts' ps us, H6 a = some (.lst vs) ∧ DTs H6 vs (encTs ts') ∧ Bins ts' ∧ H6 b = some (.lst ps) ∧ DTs H6 ps (encTs us) ∧ Bins us ∧ (namesTs us ++ namesTs ts').Perm ys ∧ us.length = i ∧ ts'.length + i = ts.length ∧ PenAt H6 p pq (c + 2 + 2 * i))
      ⟨⟨_, rfl⟩, B5, vs, ts, [], [], ha5, d5, bn2, hb5, .nil, trivial, nm2, rfl, rfl, p5⟩ (fun i σ H6 hi _ => hi) (fun σ H6 _ => Nat.le_refl _) (fun i σ H6 x H7 hi ⟨⟨s6, es⟩, B6, vs, ts', ps, us, ha6, dv6, bn6, hb6, dp6, bu6, nm6, ul, tl, p6⟩ hy => ?_) fun σ H6 ⟨⟨s6, es⟩, B6, vs, ts', ps, us, ha6, dv6, bn6, hb6, dp6, bu6, nm6, ul, tl, p6⟩ => ?_
    · subst es
      obtain ⟨rfl, rfl⟩ := hy
      have vl' : vs.length = ts'.length := dv6.length.trans (encTs_length ts')
      have pl' : ps.length = us.length := dp6.length.trans (encTs_length us)
      refine ⟨_, rfl, ⟨b, _, rfl, hb6⟩, _, rfl, ⟨a, _, rfl, ha6⟩, _, rfl, _, rfl, a, _, rfl, .inl ha6, p, pq, _, _, rfl, p6, by omega, by omega, by omega, fun H8 r8 b8 p8 r80 r81 => ?_⟩
      refine ⟨1, rfl, small (show 2 ≤ 10000 by decide), fun t8 ht8 => ?_⟩
      have ht8' : upd H8 t8 (.lst [.int r8, .int (-1)]) t8 = some (.lst [.int r8, .int (-1)]) := upd_same
      have B68 : But p H7 (upd H8 t8 (.lst [.int r8, .int (-1)])) := b8.trans' (But.of (same_upd ht8))
      have p8' := p8.up (same_upd (o := .lst [.int r8, .int (-1)]) ht8)
      generalize upd H8 t8 (.lst [.int r8, .int (-1)]) = H8 at ht8' B68 p8' ⊢
      refine ⟨_, rfl, p, pq, _, 2, rfl, p8', by omega, by decide, by decide, fun H9 r9 b9 p9 r90 r91 => ?_⟩
      have B69 : But p H7 H9 := B68.trans' b9
      have nt8p : t8 ≠ p := p8'.ne ht8'
      obtain ⟨k8, rfl⟩ := Int.eq_ofNat_of_zero_le r80
      obtain ⟨z, k, hz, hz0, hz1, hzk, hk⟩ : ∃ (z : Int) (k : Nat), atI [V.int k8, V.int (-1)] r9 = some (.int z) ∧ -(2 ^ 63) ≤ z ∧ z < 2 ^ 63 ∧ seqIndex? z vs.length = some k ∧ k < vs.length := by
        have : r9 = 0 ∨ r9 = 1 := by omega
        rcases this with e | e <;> subst e
        · exact ⟨k8, k8, atI_nat (j := 0) rfl, by omega, by omega, six (by omega), by omega⟩
        · exact ⟨-1, vs.length - 1, atI_nat (j := 1) rfl, by omega, by omega, six_last (by omega), by omega⟩
      have ha9 := B69 _ _ (p6.ne ha6) ha6
      have hb9 := B69 _ _ (p6.ne hb6) hb6
      have hx : vs[k]? = some vs[k] := List.getElem?_eq_getElem hk
      obtain ⟨tr, etr, mtr, dtr⟩ := part_at dv6 hx
      have tk69 : TK H7 H9 := fun b' u e t => B69 b' u (fun z => by
        subst z
        obtain ⟨o, h⟩ := p6.kd
        rw [h] at e
        cases e
        exact no_dK t) e
      refine ⟨t8, _, r9, .int z, rfl, rfl, b9 _ _ nt8p ht8', hz, a, _, z, k, vs[k], rfl, rfl, ha9, hz0, hz1, hzk, hx, ?_⟩
      have hb10 : upd H9 a (.lst (vs.eraseIdx k)) b = some (.lst ps) := by rw [upd_ne nba]; exact hb9
      have tk10 : TK H7 (upd (upd H9 a (.lst (vs.eraseIdx k))) b (.lst (ps ++ [vs[k]]))) := TK.trans tk69 (TK.trans (tk_set ha9 no_lst) (tk_set hb10 no_lst))
      refine ⟨b, _, vs[k], rfl, rfl, hb10, smallT (by omega), ⟨_, rfl⟩, fun b' o hbp e => ?_, vs.eraseIdx k, ts'.eraseIdx k, ps ++ [vs[k]], us ++ [tr], ?_, ?_, ?_, upd_same, ?_, ?_, ?_, by rw [List.length_append, ul]; rfl, ?_, ?_⟩
      · have := B69 _ _ hbp (B6 _ _ hbp e)
        rw [upd_ne (fun z => ?_), upd_ne (ne_of_none e ha)]
        · exact this
        · have := b4 b' o hbp (B3 b' o hbp e)
          rw [z, hb] at this
          cases this
      · rw [upd_ne (Ne.symm nba), upd_same]
      · have e : encTs (ts'.eraseIdx k) = (encTs ts').eraseIdx k := by rw [encTs_map, encTs_map, map_erase]
        rw [e]
        exact (dts_erase dv6).up tk10
      · exact Bins_iff.mpr fun t ht => Bins_iff.mp bn6 t (List.mem_of_mem_eraseIdx ht)
      · have e : encTs (us ++ [tr]) = encTs us ++ [encT tr] := by rw [encTs_map, encTs_map, List.map_append]; rfl
        rw [e]
        exact DTs.snoc (dp6.up tk10) (dtr.up tk10)
      · exact Bins_iff.mpr fun t ht => by
          rcases List.mem_append.mp ht with h | h
          · exact Bins_iff.mp bu6 t h
          · rw [List.mem_singleton.mp h]
            exact Bins_iff.mp bn6 _ mtr
      · refine List.Perm.trans ?_ nm6
        rw [namesTs_app]
        have e : namesTs [tr] = namesT tr := by simp [namesTs]
        rw [e, List.append_assoc]
        exact List.Perm.append_left _ (namesTs_pop etr)
      · have := List.length_eraseIdx_of_lt (l := ts') (i := k) (by omega)
        omega
      · exact ((p9.set (hp.new ha)).set nbp).more (by omega)
    · subst es
      have pl' : ps.length = us.length := dp6.length.trans (encTs_length us)
      have vl' : vs.length = ts'.length := dv6.length.trans (encTs_length ts')
      refine ⟨_, rfl, ⟨a, _, rfl, ha6⟩, _, rfl, b, ps, us, rfl, hb6, dp6, (fun z => by rw [z] at ul; simp at ul; omega), Bins.full us bu6, by omega, fun H7 v7 u7 S7 d7 J => ?_⟩
      have tk7 : TK H7 (upd H7 a (.lst (vs ++ [v7]))) := tk_set (S7 _ _ ha6) no_lst
      refine ⟨a, _, v7, rfl, rfl, S7 _ _ ha6, smallT (by omega), (ts' ++ [u7]).length, ?_, vs ++ [v7], ts' ++ [u7], c + 2 + 2 * mm, _, _, _, rfl, fun b' o hbp e => ?_, upd_same, ?_, ?_, ?_, by rw [List.length_append]; simp, ?_, ?_, rfl⟩
      · rw [List.length_append]
        simp
        omega
      · rw [upd_ne (ne_of_none e ha)]
        exact S7 _ _ (B6 _ _ hbp e)
      · have e : encTs (ts' ++ [u7]) = encTs ts' ++ [encT u7] := by rw [encTs_map, encTs_map, List.map_append]; rfl
        rw [e]
        exact DTs.snoc (dv6.up (TK.trans (Same.tk S7) tk7)) (d7.up tk7)
      · exact Bins_iff.mpr fun t ht => by
          rcases List.mem_append.mp ht with h | h
          · exact Bins_iff.mp bn6 t h
          · rw [List.mem_singleton.mp h]
            exact J.bin bu6
      · refine List.Perm.trans ?_ nm6
        rw [namesTs_app]
        have e : namesTs [u7] = namesT u7 := by simp [namesTs]
        rw [e]
        exact List.perm_append_comm.trans (List.Perm.append_right _ J.names)
      · exact (p6.up S7).set (hp.new ha)
      · rw [List.length_append]
        simp
        omega
  · have hle : ¬ ((1 : Int) < (vs.length : Int)) := fun z => hle (decide_eq_true z)
    have h1 : ts.length = 1 := by omega
    obtain ⟨t, rfl⟩ := List.length_eq_one_iff.mp h1
    obtain ⟨x, rfl⟩ := List.length_eq_one_iff.mp (vl.trans h1)
    cases d2 with
    | cons h0 _ =>
      refine ⟨_, rfl, a, _, 0, x, rfl, rfl, ha2, atI_nat (j := 0) rfl, q _ _ _ B2 (hp2.more (by omega)) h0 bn2.1 ?_⟩
      simpa [namesTs] using nm2
end
end JT
/-! A7: one join more. -/
namespace JT
open PySem PySem.Spec PyProof.Rows L2 PySem.W
abbrev s__law_joined : Stmt := topS 65
abbrev n__law_joined : List Str := ["_law_pen_here", "_law_rows_here", "_law_edges", "_law_at", "_law_one", "_law_other", "_law_fork_here", "_law_join", "_law_kid"]
theorem sc__law_joined : FnScope n__law_joined ["_law_pen_here", "_law_rows_here"] (defScope s__law_joined) :=
  ⟨rfl, rfl, rfl, by decide +kernel, rfl, by decide +kernel, by decide +kernel⟩
section
variable {P : Program} {w : World} {K : PySem.W.Frag} {mg : Str → Option Value} {base : Heap}
def encE (e : Nat × Nat) : PyData := .tuple [natD e.1, natD e.2]
theorem encE_at {H : Hp} {v : V} {e : Nat × Nat} (h : DT H v (encE e)) : ∃ a, v = .ref a ∧ H a = some (.tup [natV e.1, natV e.2]) := by
  obtain ⟨a, xs, rfl, ha, hs⟩ := DT.of_tup h
  refine ⟨a, rfl, ?_⟩
  cases hs with
  | cons h1 h2 =>
    cases h2 with
    | cons h2 h3 =>
      cases h3
      rw [h1.of_int, h2.of_int] at ha
      exact ha
theorem encE_mk {H : Hp} {a : Addr} {e : Nat × Nat} (h : H a = some (.tup [natV e.1, natV e.2])) : DT H (.ref a) (encE e) := .tup h (.cons (.int _) (.cons (.int _) .nil))
theorem keys_nat {kvs : List (Key × V)} {n : Nat} (nd : (kvs.map (·.1)).Nodup) (h : ∀ k, k ∈ kvs.map (·.1) ↔ ∃ i, i < n ∧ k = nk i) : ∃ o : List Nat, kvs.map (·.1) = (o.map fun (k : Nat) => (k : Int)).map Sum.inl ∧ o.Perm (List.range n) := by
  generalize kvs.map (·.1) = ks at nd h
  let g : Key → Nat := fun k => match k with
    | .inl i => i.toNat
    | .inr _ => 0
  have hg : ∀ i, g (nk i) = i := fun i => Int.toNat_natCast i
  have e : ks = ((ks.map g).map fun (k : Nat) => (k : Int)).map Sum.inl := by
    rw [List.map_map, List.map_map]
    conv => lhs; rw [show ks = ks.map id by simp]
    refine List.map_congr_left fun k hk => ?_
    obtain ⟨i, _, rfl⟩ := (h k).mp hk
    show nk i = Sum.inl ((g (nk i) : Nat) : Int)
    rw [hg]
    rfl
  refine ⟨ks.map g, e, (List.perm_ext_iff_of_nodup ?_ List.nodup_range).mpr fun i => ?_⟩
  · rw [List.nodup_iff_pairwise_ne, List.pairwise_map]
    refine List.Pairwise.imp_of_mem (R := fun a b => a ≠ b) (fun {a b} ha hb hab z => ?_) (List.nodup_iff_pairwise_ne.mp nd)
    obtain ⟨i, _, rfl⟩ := (h a).mp ha
    obtain ⟨j, _, rfl⟩ := (h b).mp hb
    rw [hg, hg] at z
    exact hab (by rw [z])
  · rw [List.mem_range, List.mem_map]
    constructor
    · rintro ⟨k, hk, rfl⟩
      obtain ⟨j, hj, rfl⟩ := (h k).mp hk
      rw [hg]
      exact hj
    · intro hi
      exact ⟨nk i, (h _).mpr ⟨i, hi, rfl⟩, hg i⟩
theorem nats_set {ns : List Int} {ks : List Nat} (h : ∀ k : Int, k ∈ ns ↔ k ∈ ks.map fun (k : Nat) => (k : Int)) : ∃ l : List Nat, ns = l.map (fun (k : Nat) => (k : Int)) ∧ ∀ k, k ∈ l ↔ k ∈ ks := by
  have e : ns = (ns.map Int.toNat).map fun (k : Nat) => (k : Int) := by
    rw [List.map_map]
    conv => lhs; rw [show ns = ns.map id by simp]
    refine List.map_congr_left fun i hi => ?_
    obtain ⟨k, _, e⟩ := List.mem_map.mp ((h i).mp hi)
    show i = ((i.toNat : Nat) : Int)
    omega
  refine ⟨ns.map Int.toNat, e, fun k => ?_⟩
  have z := h (k : Int)
  rw [e] at z
  have inj : ∀ l : List Nat, (k : Int) ∈ l.map (fun (k : Nat) => (k : Int)) ↔ k ∈ l := fun l => by
    rw [List.mem_map]
    constructor
    · rintro ⟨a, ha, e⟩
      have : a = k := by omega
      rw [← this]
      exact ha
    · exact fun h => ⟨k, h, rfl⟩
  rw [inj, inj] at z
  exact z
theorem nats_V (l : List Nat) : (l.map fun (k : Nat) => (k : Int)).map V.int = l.map natV := by
  rw [List.map_map]
  rfl
/-- a dict of rows: its keys are those of Kp, at i stands F i -/
def DictR (H : Hp) (d : Addr) (n : Nat) (Kp : Nat → Prop) (F : Nat → V) : Prop := ∃ kvs : List (Key × V), H d = some (.dK kvs) ∧ (kvs.map (·.1)).Nodup ∧ (∀ k, k ∈ kvs.map (·.1) ↔ ∃ i, (i < n ∧ Kp i) ∧ k = nk i) ∧ ∀ i, i < n → Kp i → valV kvs (nk i) = some (F i)
theorem DictR.keep {H H' : Hp} {d : Addr} {n : Nat} {Kp : Nat → Prop} {F : Nat → V} (h : DictR H d n Kp F) (k : ∀ o, H d = some o → H' d = some o) : DictR H' d n Kp F := by
  obtain ⟨kvs, e, r⟩ := h
  exact ⟨kvs, k _ e, r⟩
theorem DictR.get {H : Hp} {d : Addr} {n : Nat} {Kp : Nat → Prop} {F : Nat → V} (h : DictR H d n Kp F) {i : Nat} (hi : i < n) (k : Kp i) : DGet H d (natV i) (some (F i)) := by
  obtain ⟨kvs, e, _, _, r⟩ := h
  have z := DGet.k (k := nk i) e
  rw [r i hi k] at z
  exact z
theorem DictR.put {H : Hp} {d : Addr} {n : Nat} {Kp : Nat → Prop} {F : Nat → V} (h : DictR H d n Kp F) {i : Nat} (hi : i < n) (hn : n ≤ 10000) (v : V) : ∃ H', DPut H d (natV i) v H' ∧ But d H H' ∧ DictR H' d n (fun j => Kp j ∨ j = i) (fun j => if j = i then v else F j) := by
  obtain ⟨kvs, e, nd, hk, r⟩ := h
  have kl := keysN_len nd fun k h => by
    obtain ⟨i, ⟨h1, _⟩, h2⟩ := (hk k).mp h
    exact ⟨i, h1, h2⟩
  refine ⟨_, DPut.k (k := nk i) e (smallT (by omega)), fun b o hb eb => by rw [upd_ne hb]; exact eb, _, upd_same, nd_put _ _ nd, fun k => ?_, fun j hj kj => ?_⟩
  · rw [mem_put, hk k]
    constructor
    · rintro (h | ⟨j, ⟨h1, h2⟩, h3⟩)
      · exact ⟨i, ⟨hi, .inr rfl⟩, h⟩
      · exact ⟨j, ⟨h1, .inl h2⟩, h3⟩
    · rintro ⟨j, ⟨h1, h2 | h2⟩, h3⟩
      · exact .inr ⟨j, ⟨h1, h2⟩, h3⟩
      · exact .inl (by rw [h3, h2])
  · rw [valV_put]
    by_cases e : j = i
    · rw [if_pos (by rw [e])]
      dsimp only
      rw [if_pos e]
    · rw [if_neg (fun z => e (nk_inj z))]
      dsimp only
      rw [if_neg e]
      rcases kj with k | k
      · exact r j hj k
      · exact absurd k e
theorem RowVal.of_kids {H : Hp} {l : Addr} {r : Row} (h : H l = some (.lst (r.kids.map natV))) (n : r.kids ≠ []) : RowVal (fun _ => True) H (.ref l) r := by
  cases r with
  | leaf s => exact absurd rfl n
  | fork ks => exact ⟨l, rfl, trivial, h⟩
  | join k => exact ⟨l, rfl, trivial, h⟩
theorem RowVal.list {H : Hp} {v : V} {r : Row} {X : Addr → Prop} (h : RowVal X H v r) (n : r.kids ≠ []) : ∃ l, v = .ref l ∧ H l = some (.lst (r.kids.map natV)) := by
  cases r with
  | leaf s => exact absurd rfl n
  | fork ks =>
    obtain ⟨l, e, _, h⟩ := h
    exact ⟨l, e, h⟩
  | join k =>
    obtain ⟨l, e, _, h⟩ := h
    exact ⟨l, e, h⟩
theorem But.tkP {p q : Addr} {n : Nat} {H H' : Hp} (b : But p H H') (h : PenAt H p q n) : TK H H' := by
  obtain ⟨o, h⟩ := h.kd
  exact But.tkD b h
theorem RowsD.toF {H : Hp} {d : Addr} {N : Net} (h : RowsD H d N) : ∃ (kvs : List (Key × V)) (F : Nat → V), H d = some (.dK kvs) ∧ kvs.length = N.length ∧ DictR H d (N.length + 2) (fun i => i < N.length) F ∧ ∀ i r, N[i]? = some r → RowVal (fun _ => True) H (F i) r := by
  obtain ⟨kvs, e, nd, hk, r⟩ := h
  obtain ⟨o, eo, po⟩ := keys_nat nd hk
  refine ⟨kvs, fun i => (valV kvs (nk i)).getD .non, e, ?_, ⟨kvs, e, nd, fun k => ?_, fun i _ hi => ?_⟩, fun i x hx => ?_⟩
  · have := congrArg List.length eo
    rw [List.length_map, List.length_map, List.length_map, po.length_eq, List.length_range] at this
    exact this
  · rw [hk k]
    exact ⟨fun ⟨i, h1, h2⟩ => ⟨i, ⟨by omega, h1⟩, h2⟩, fun ⟨i, ⟨_, h1⟩, h2⟩ => ⟨i, h1, h2⟩⟩
  · obtain ⟨x, ex⟩ := row_ex hi
    obtain ⟨v, ev, _⟩ := r i x ex
    dsimp only
    rw [ev]
    rfl
  · obtain ⟨v, ev, rv⟩ := r i x hx
    dsimp only
    rw [ev]
    exact rv
theorem RowsD.ofF {H : Hp} {d : Addr} {M : Net} {Kp : Nat → Prop} {F : Nat → V} (h : DictR H d M.length Kp F) (hk : ∀ i, i < M.length → Kp i) (hr : ∀ i r, M[i]? = some r → RowVal (fun _ => True) H (F i) r) : RowsD H d M := by
  obtain ⟨kvs, e, nd, hk', r⟩ := h
  refine ⟨kvs, e, nd, fun k => ?_, fun i x hx => ?_⟩
  · rw [hk' k]
    exact ⟨fun ⟨i, ⟨h1, _⟩, h2⟩ => ⟨i, h1, h2⟩, fun ⟨i, h1, h2⟩ => ⟨i, ⟨h1, hk i h1⟩, h2⟩⟩
  · have hi := (List.getElem?_eq_some_iff.mp hx).1
    exact ⟨F i, r i hi (hk i hi), hr i x hx⟩
theorem swap_kept (k m : Nat) (ks : List Nat) : kept (fun _ => true) (fun j => natV (swap1 k m (ks.getD j 0))) ks.length = (swapK k m ks).map natV := by
  rw [kept_all]
  unfold swapK
  rw [List.map_map]
  apply List.ext_getElem
  · simp
  · intro j h1 h2
    simp at h1
    simp [List.getElem?_eq_getElem h1]
def spLJoined : Sp := fun vs H Q _ => ∃ (p pq d : Addr) (c : Nat) (N : Net), vs = [.ref p, .ref d] ∧ PenAt H p pq c ∧ c + 10 ≤ 100000 ∧ d ≠ p ∧ RowsD H d N ∧ Loose N ∧ N.length + 2 ≤ 49 ∧ (JT.joins N).length + 1 ≤ 6 ∧
  ∀ H' N', (∀ b o, b ≠ p → b ≠ d → H b = some o → H' b = some o) → PenAt H' p pq (c + 2) → RowsD H' d N' → Loose N' → N'.length ≤ N.length + 2 → (JT.joins N').length ≤ (JT.joins N).length + 1 → Q .non H'
theorem c__law_joined (T : Top mg) (D : Def K mg "_law_joined" "_law_joined" s__law_joined) (C__law_draw : Cal P w K mg base 1 "_law_draw" spDraw) (C__law_leads_to : Cal P w K mg base 1 "_law_leads_to" spLeads) : Cal P w K mg base 2 "_law_joined" spLJoined := by
  refine D.cal sc__law_joined (fun _ _ _ _ _ _ us hl => match us, hl with | [_, _], _ => rfl) (fun vs H Q E h => ?_) fun f cdv A outer s H vs Q E hr hsp => ?_
  · obtain ⟨_, _, _, _, _, rfl, _⟩ := h; rfl
  have hu := hu_of hr
  have hu64 := hu64_of hr
  refine ⟨_, (pss_cons (ps_set (i := 2) sc__law_joined.nd rfl (Or.inl rfl) (pe_lst pa_nil))
    (pss_cons (ps_for PassesOwn.never rfl (pi_listK K (pe_callB (call_sortedDI rfl) rfl T.sorted (by decide +kernel) (pa_cons (pv 1) pa_nil))) (pg_name (i := 3) sc__law_joined.nd rfl (Or.inr rfl))
    (pss_one (ps_if (pt_not (pt_val (pe_isi (T := "str") rfl T.isinstance rfl T.str (by decide +kernel) (pe_dget hu (pv 1) (pv 3) (fun _ _ => rfl))))) (pss_one (ps_expr (pe_ml PySem.F.slot_list_extend PySem.F.type_list_extend mt_extend (pv 2) (pa_cons (pe_lc (own := [("_law_kid", 8)]) (g := gName 8) (tt := tYes) rfl sc__law_joined.nd (pi_listK K (pe_sortSetI rfl T.sorted rfl T.set (pe_dget hu (pv 1) (pv 3) (fun _ _ => rfl)))) (blkOk_by (own := [("_law_kid", 8)]) (N := n__law_joined) (sc := defScope s__law_joined) (by decide +kernel)) (fun _ _ _ _ _ => (pg_name (i := 8) sc__law_joined.nd rfl (Or.inl rfl))) (fun _ _ _ _ _ => pts_nil) (fun _ _ _ _ _ => (pe_tup (pa_cons (pv 3) (pa_cons (pv 8) pa_nil))))) pa_nil)))) pss_nil)))
    (pss_cons (ps_set (i := 4) sc__law_joined.nd rfl (Or.inr rfl) (pe_ifExp (pt_cmpR op_gt (pe_callB lenq rfl T.len PySem.boot_len (pa_cons (pv 2) pa_nil)) pe_int (nomark _)) (pe_ml PySem.F.slot_list_pop PySem.F.type_list_pop mt_popAt (pv 2) (pa_cons (pe_f C__law_draw hr rfl (pa_cons (pv 0) (pa_cons (pe_callB lenq rfl T.len PySem.boot_len (pa_cons (pv 2) pa_nil)) pa_nil))) pa_nil)) (pe_tup (pa_cons pe_int (pa_cons pe_int pa_nil)))))
    (pss_cons (ps_set (i := 5) sc__law_joined.nd rfl (Or.inr rfl) (pe_ifExp (pt_cmpR op_gt (pe_callB lenq rfl T.len PySem.boot_len (pa_cons (pv 2) pa_nil)) pe_int (nomark _)) (pe_ix ixl (pv 2) (pe_f C__law_draw hr rfl (pa_cons (pv 0) (pa_cons (pe_callB lenq rfl T.len PySem.boot_len (pa_cons (pv 2) pa_nil)) pa_nil))) (fun _ _ => rfl)) (pe_tup (pa_cons pe_int (pa_cons pe_int pa_nil)))))
    (pss_one (ps_if (PW.pt (pw_and (pt_cmpR (ned hu64) (pv 4) (pv 5) (nomark _)) (pw_and1 (pt_not (pt_val (pe_f C__law_leads_to hr rfl (pa_cons (pv 1) (pa_cons (pe_ix ixt (pv 5) pe_int (fun _ _ => rfl)) (pa_cons (pe_ix ixt (pv 4) pe_int (fun _ _ => rfl)) pa_nil))))))))) (pss_cons (ps_asg (pe_tup (pa_cons (pe_callB call_lenD rfl T.len PySem.boot_len (pa_cons (pv 1) pa_nil)) (pa_cons (pe_op op_add (pe_callB call_lenD rfl T.len PySem.boot_len (pa_cons (pv 1) pa_nil)) pe_int) pa_nil))) (pgt (n := 2) rfl (pgs_cons (pg_name (i := 6) sc__law_joined.nd rfl (Or.inr rfl)) (pgs_cons (pg_name (i := 7) sc__law_joined.nd rfl (Or.inr rfl)) pgs_nil))))
    (pss_cons (ps_dput hu (pv 1) (pv 7) (pe_lst (pa_cons (pe_ix ixt (pv 5) pe_int (fun _ _ => rfl)) pa_nil)) rfl)
    (pss_cons (ps_dput hu (pv 1) (pv 6) (pe_lst (pa_cons (pe_ix ixt (pv 4) pe_int (fun _ _ => rfl)) (pa_cons (pv 7) pa_nil))) rfl)
    (pss_cons (ps_dput hu (pv 1) (pe_ix ixt (pv 4) pe_int (fun _ _ => rfl)) (pe_lc (own := [("_law_kid", 8)]) (g := gName 8) (tt := tYes) rfl sc__law_joined.nd (pi_listK K (pe_dget hu (pv 1) (pe_ix ixt (pv 4) pe_int (fun _ _ => rfl)) (fun _ _ => rfl))) (blkOk_by (own := [("_law_kid", 8)]) (N := n__law_joined) (sc := defScope s__law_joined) (by decide +kernel)) (fun _ _ _ _ _ => (pg_name (i := 8) sc__law_joined.nd rfl (Or.inl rfl))) (fun _ _ _ _ _ => pts_nil) (fun _ _ _ _ _ => (pe_ix ixl (pe_lst (pa_cons (pv 8) (pa_cons (pv 6) pa_nil))) (pe_callTy call_int1 rfl T.int (by decide +kernel) (pa_cons (pe_cmpR op_eq (pv 8) (pe_ix ixt (pv 4) pe_int (fun _ _ => rfl)) (nomark _)) pa_nil)) (fun _ _ => rfl)))) rfl)
    (pss_one (ps_dput hu (pv 1) (pe_ix ixt (pv 5) pe_int (fun _ _ => rfl)) (pe_lc (own := [("_law_kid", 8)]) (g := gName 8) (tt := tYes) rfl sc__law_joined.nd (pi_listK K (pe_dget hu (pv 1) (pe_ix ixt (pv 5) pe_int (fun _ _ => rfl)) (fun _ _ => rfl))) (blkOk_by (own := [("_law_kid", 8)]) (N := n__law_joined) (sc := defScope s__law_joined) (by decide +kernel)) (fun _ _ _ _ _ => (pg_name (i := 8) sc__law_joined.nd rfl (Or.inl rfl))) (fun _ _ _ _ _ => pts_nil) (fun _ _ _ _ _ => (pe_ix ixl (pe_lst (pa_cons (pv 8) (pa_cons (pv 7) pa_nil))) (pe_callTy call_int1 rfl T.int (by decide +kernel) (pa_cons (pe_cmpR op_eq (pv 8) (pe_ix ixt (pv 5) pe_int (fun _ _ => rfl)) (nomark _)) pa_nil)) (fun _ _ => rfl)))) rfl)))))) pss_nil)))))), ?_⟩
  obtain ⟨p, pq, d, c, N, rfl, hp, hc, ndp, hR, G, hn, hj, q⟩ := hsp
  refine ⟨Nat.zero_le _, fun el hel => ?_⟩
  have S1 := same_upd (o := .lst []) hel
  have hel1 : upd H el (.lst []) el = some (.lst []) := upd_same
  generalize upd H el (.lst []) = H1 at S1 hel1 ⊢
  obtain ⟨kvs, e1, e2, e3, e4⟩ := id (hR.up S1)
  obtain ⟨o, eo, po⟩ := keys_nat e2 e3
  have ol : o.length = N.length := by rw [po.length_eq, List.length_range]
  refine ⟨_, rfl, d, kvs, _, rfl, .inl e1, eo, by rw [List.length_map]; omega, fun ys sp pm pw hsp => ?_⟩
  obtain ⟨o2, po2, rfl⟩ := nats_of_perm pm
  have po := po2.trans po
  have ol : o2.length = N.length := by rw [po.length_eq, List.length_range]
  rw [nats_V]
  have S2 := Same.trans' S1 (same_upd (o := .lst (o2.map natV)) hsp)
  have hel2 := (same_upd (o := .lst (o2.map natV)) hsp) _ _ hel1
  have hsp2 : upd H1 sp (.lst (o2.map natV)) sp = some (.lst (o2.map natV)) := upd_same
  have nse : sp ≠ el := fun z => by rw [z, hel1] at hsp; cases hsp
  generalize upd H1 sp (.lst (o2.map natV)) = H2 at S2 hel2 hsp2 ⊢
  refine ⟨sp, rfl, ⟨_, sl_at hsp2⟩, ?_⟩
  refine for_gen (n := N.length) (fun i σ H3 => (∃ s3 s4 s5 s6 s7 s8, σ = [some (.ref p), some (.ref d), some (.ref el), s3, s4, s5, s6, s7, s8]) ∧ Same H H3 ∧ H3 sp = some (.lst (o2.map natV)) ∧ ∃ (es : List (Nat × Nat)) (xs : List V), H3 el = some (.lst xs) ∧ DTs H3 xs (es.map encE) ∧ es.length ≤ 49 * i ∧ ∀ e, e ∈ es ↔ e.1 ∈ o2.take i ∧ e.2 ∈ kidsAt N e.1)
    ⟨⟨_, _, _, _, _, _, rfl⟩, S2, hsp2, [], [], hel2, .nil, Nat.le_refl _, by simp⟩ (fun i σ H3 hi ⟨_, _, h, _⟩ => go_lst h (by rw [nats_len]; omega)) (fun σ H3 ⟨_, _, h, _⟩ => st_lst h (by rw [nats_len]; omega)) (fun i σ H3a x H3 hi ⟨⟨s3, s4, s5, s6, s7, s8, es0⟩, S3, hsp3, es, xs, hel3, hxs, hlen, hes⟩ hy => ?_) fun σ H3 ⟨⟨s3, s4, s5, s6, s7, s8, es0⟩, S3, hsp3, es, xs, hel3, hxs, hlen, hes⟩ => ?_
  · subst es0
    obtain ⟨rfl, hx⟩ := hy
    have hx := hx _ (sl_at hsp3)
    rw [nats_at (by omega)] at hx
    cases hx
    have hat : o2[i]? = some o2[i] := List.getElem?_eq_getElem (by omega)
    have htk : o2.take (i + 1) = o2.take i ++ [o2[i]] := by rw [List.take_add_one, hat]; rfl
    have hlt : o2[i] < N.length := List.mem_range.mp (po.mem_iff.mp (List.getElem_mem _))
    have hnew : o2[i] ∉ o2.take i := fun z => by
      obtain ⟨i', hi', ei'⟩ := List.mem_take_iff_getElem.mp z
      have := (List.getElem_inj (po.nodup_iff.mpr List.nodup_range)).mp ei'
      omega
    generalize o2[i] = x at hat htk hlt hnew
    obtain ⟨r, er⟩ := row_ex hlt
    obtain ⟨v, gv, rv⟩ := (hR.up S3).at er
    have noKids : kidsAt N x = [] → (∀ e, e ∈ es ↔ e.1 ∈ o2.take (i + 1) ∧ e.2 ∈ kidsAt N e.1) := fun z e => by
      rw [hes e, htk, List.mem_append, List.mem_singleton]
      constructor
      · exact fun h => ⟨.inl h.1, h.2⟩
      · rintro ⟨h1 | h1, h2⟩
        · exact ⟨h1, h2⟩
        · rw [h1, z] at h2
          cases h2
    cases r with
    | leaf z =>
      have hv : v = .str z := rv
      subst hv
      refine ⟨_, rfl, _, rfl, d, _, rfl, gv, _, _, .str z, k_ss, _, rfl, iteF ?_⟩
      exact ⟨⟨_, _, _, _, _, _, rfl⟩, S3, hsp3, es, xs, hel3, hxs, by omega, noKids (kidsAt_some er)⟩
    | _ =>
      obtain ⟨lr, rfl, _, hlr⟩ := rv
      have hlr' : H3 lr = some (.lst (((kidsAt N x).map fun (k : Nat) => (k : Int)).map V.int)) := by
        rw [nats_V, kidsAt_some er]
        exact hlr
      have kle := G.kids_le x
      refine ⟨_, rfl, _, rfl, d, _, rfl, gv, _, _, .lst hlr, k_ls, _, rfl, iteT ?_⟩
      refine ⟨_, rfl, ⟨el, _, rfl, hel3⟩, _, rfl, _, rfl, d, _, rfl, gv, lr, _, rfl, .inl (.inl hlr'), by rw [List.length_map]; omega, fun Ds o hDs no ns' p2 pw2 mem2 np2 => ?_⟩
      obtain ⟨ks', rfl, mk'⟩ := nats_set mem2
      rw [nats_V]
      have knd : ks'.Nodup := by
        rw [List.nodup_iff_pairwise_ne]
        exact (List.pairwise_map.mp pw2).imp fun {a b} h => by omega
      have kl : ks'.length ≤ 49 := Nat.le_trans (nodup_le knd fun k hk => (mk' k).mp hk) kle
      have S4 : Same H3 (upd (upd H3 Ds o) p2 (.lst (ks'.map natV))) := Same.trans' (same_upd hDs) (same_upd (by rw [nats_V] at *; exact np2))
      have hp2 : upd (upd H3 Ds o) p2 (.lst (ks'.map natV)) p2 = some (.lst (ks'.map natV)) := upd_same
      generalize upd (upd H3 Ds o) p2 (.lst (ks'.map natV)) = H4 at S4 hp2 ⊢
      refine ⟨p2, rfl, ⟨_, sl_at hp2⟩, fun D2 hD2 => ?_⟩
      refine lc_rel (n := ks'.length) (fun j y H5 => ∃ r, y = .ref r ∧ H5 r = some (.tup [natV x, natV (ks'.getD j 0)])) (fun j y H5 H6 tk ⟨r, e, h⟩ => ⟨r, e, tk _ _ h (.inl ⟨_, rfl⟩)⟩) hD2 (by omega) (fun j H5 hj S5 => go_lst (S5 _ _ hp2) (by rw [nats_len]; exact hj)) (fun H5 S5 => st_lst (S5 _ _ hp2) (by rw [nats_len]; exact Nat.le_refl _)) (fun j H5 y H6 Kt Kf hj S5 hy hKt => ?_) fun H5 zs S5 hzs hzl hzR => ?_
      · obtain ⟨rfl, hy⟩ := hy
        have hy := hy _ (sl_at (S5 _ _ hp2))
        rw [nats_at hj] at hy
        cases hy
        refine ⟨rfl, _, rfl, _, rfl, small (show 2 ≤ 10000 by decide), fun r hr2 => hKt _ _ (same_upd hr2) ⟨r, rfl, ?_⟩⟩
        rw [upd_same, List.getD_eq_getElem?_getD, List.getElem?_eq_getElem hj]
        rfl
      · have S35 := Same.trans' S4 S5
        have hel5 := S35 _ _ hel3
        have xl : xs.length = es.length := by rw [hxs.length, List.length_map]
        refine ⟨el, D2, xs, zs, rfl, rfl, hel5, hzs, small (by omega), ⟨_, _, _, _, _, _, rfl⟩, fun b o e => ?_, ?_, es ++ ks'.map (fun k => (x, k)), xs ++ zs, upd_same, ?_, ?_, fun e => ?_⟩
        · rw [upd_ne (ne_of_none e hel)]
          exact S35 _ _ (S3 _ _ e)
        · rw [upd_ne nse]
          exact S35 _ _ hsp3
        · have tk : TK H5 (upd H5 el (.lst (xs ++ zs))) := tk_set hel5 no_lst
          rw [List.map_append]
          refine app_dts (hxs.up (TK.trans (Same.tk S35) tk)) (DTs.of_get (by simp [hzl]) fun j v' dd e1 e2 => ?_)
          obtain ⟨r, rfl, h⟩ := hzR j v' e1
          rw [List.getElem?_map, List.getElem?_map] at e2
          obtain ⟨e', e3, e4⟩ := Option.map_eq_some_iff.mp e2
          obtain ⟨k, e5, e6⟩ := Option.map_eq_some_iff.mp e3
          rw [← e4, ← e6]
          refine encE_mk (tk _ _ ?_ (.inl ⟨_, rfl⟩))
          rw [h, List.getD_eq_getElem?_getD, e5]
          rfl
        · rw [List.length_append, List.length_map]
          omega
        · rw [List.mem_append, hes e, htk, List.mem_append, List.mem_singleton, List.mem_map]
          constructor
          · rintro (h | ⟨k, hk, rfl⟩)
            · exact ⟨.inl h.1, h.2⟩
            · exact ⟨.inr rfl, (mk' k).mp hk⟩
          · rintro ⟨h1 | h1, h2⟩
            · exact .inl ⟨h1, h2⟩
            · refine .inr ⟨e.2, (mk' _).mpr (by rw [← h1]; exact h2), ?_⟩
              rw [← h1]
  · subst es0
    rw [← ol, List.take_length] at hes
    have hes : ∀ e, e ∈ es ↔ e.2 ∈ kidsAt N e.1 := fun e => by
      rw [hes e]
      exact ⟨fun h => h.2, fun h => ⟨po.mem_iff.mpr (List.mem_range.mpr (kidsAt_lt h)), h⟩⟩
    have xl : xs.length = es.length := by rw [hxs.length, List.length_map]
    have hp3 := hp.up S3
    have hR3 := hR.up S3
    refine ⟨_, rfl, el, _, rfl, .inl hel3, _, 1, rfl, rfl, _, rfl, ?_⟩
    by_cases hnil : es = []
    · subst hnil
      have hx0 : xs = [] := List.length_eq_zero_iff.mp xl
      subst hx0
      refine iteF ⟨small (show 2 ≤ 10000 by decide), fun t1 ht1 => ?_⟩
      have S4 := same_upd (o := .tup [V.int 0, V.int 0]) ht1
      have d1 : DT (upd H3 t1 (.tup [V.int 0, V.int 0])) (.ref t1) (encE (0, 0)) := encE_mk upd_same
      have hel4 := S4 _ _ hel3
      have S14 := Same.trans' S3 S4
      generalize upd H3 t1 (.tup [V.int 0, V.int 0]) = H4 at S4 d1 hel4 S14 ⊢
      refine ⟨_, rfl, el, _, rfl, .inl hel4, _, 0, rfl, rfl, _, rfl, iteF ⟨small (show 2 ≤ 10000 by decide), fun t2 ht2 => ?_⟩⟩
      have S5 := same_upd (o := .tup [V.int 0, V.int 0]) ht2
      have d2 : DT (upd H4 t2 (.tup [V.int 0, V.int 0])) (.ref t2) (encE (0, 0)) := encE_mk upd_same
      have d1 := d1.up (Same.tk S5)
      have S15 := Same.trans' S14 S5
      generalize upd H4 t2 (.tup [V.int 0, V.int 0]) = H5 at S5 d1 d2 S15 ⊢
      refine ⟨_, rfl, _, rfl, encE (0, 0), encE (0, 0), .inl d1, .inl d2, by decide, by decide, _, rfl, iteF (iteF ?_)⟩
      exact q _ N (fun b o _ _ e => S15 _ _ e) ((hp.up S15).more (by omega)) (hR.up S15) G (by omega) (by omega)
    · have two : 2 ≤ es.length := by
        obtain ⟨e0, he0⟩ := List.exists_mem_of_ne_nil es hnil
        obtain ⟨a1, a2, hne, h1, h2⟩ := G.two_edges ((hes e0).mp he0)
        exact nodup_le (l := [a1, a2]) (by simpa using hne) fun z hz => by
          simp at hz
          rcases hz with e | e
          · rw [e]; exact (hes _).mpr h1
          · rw [e]; exact (hes _).mpr h2
      have hesl : es.length ≤ 49 * 49 := by
        have := G.len
        omega
      refine iteP (by omega) ?_
      refine ⟨_, rfl, ⟨el, _, rfl, hel3⟩, _, rfl, _, rfl, el, _, rfl, .inl hel3, p, pq, c, _, rfl, hp3, by omega, by omega, by omega, fun H4 r4 b4 p4 r40 r41 => ?_⟩
      obtain ⟨k4, rfl⟩ := Int.eq_ofNat_of_zero_le r40
      have hk4 : k4 < xs.length := by omega
      have nep : el ≠ p := hp3.ne hel3
      have hel4 := b4 _ _ nep hel3
      have hx4 : xs[k4]? = some xs[k4] := List.getElem?_eq_getElem hk4
      obtain ⟨dd, ed, hd4⟩ := hxs.get hx4
      rw [List.getElem?_map] at ed
      obtain ⟨⟨p1, k1⟩, ee1, rfl⟩ := Option.map_eq_some_iff.mp ed
      have hk1 : k1 ∈ kidsAt N p1 := (hes _).mp (List.mem_of_getElem? ee1)
      refine ⟨el, _, _, k4, xs[k4], rfl, rfl, hel4, by omega, by omega, six hk4, hx4, ?_⟩
      have tk4 : TK H3 (upd H4 el (.lst (xs.eraseIdx k4))) := TK.trans (But.tkP b4 hp3) (tk_set hel4 no_lst)
      have d1 := hd4.up tk4
      have hxs4 : DTs (upd H4 el (.lst (xs.eraseIdx k4))) (xs.eraseIdx k4) ((es.eraseIdx k4).map encE) := by
        rw [← map_erase]
        exact (dts_erase hxs).up tk4
      have B4 : But p H (upd H4 el (.lst (xs.eraseIdx k4))) := fun b o hb e => by
        rw [upd_ne (ne_of_none e hel)]
        exact b4 _ _ hb (S3 _ _ e)
      have p4' := p4.set (b := el) (o := .lst (xs.eraseIdx k4)) (hp.new hel)
      have hel4' : upd H4 el (.lst (xs.eraseIdx k4)) el = some (.lst (xs.eraseIdx k4)) := upd_same
      generalize xs[k4] = v1 at d1
      have el4l : (xs.eraseIdx k4).length = es.length - 1 := by rw [List.length_eraseIdx_of_lt hk4, xl]
      generalize upd H4 el (.lst (xs.eraseIdx k4)) = H5 at d1 hxs4 B4 p4' hel4' ⊢
      refine ⟨_, rfl, el, _, rfl, .inl hel4', _, 0, rfl, rfl, _, rfl, iteP (by omega) ?_⟩
      refine ⟨_, rfl, _, rfl, _, rfl, el, _, rfl, .inl hel4', p, pq, c + 1, _, rfl, p4', by omega, by omega, by omega, fun H6 r6 b6 p6 r60 r61 => ?_⟩
      obtain ⟨k6, rfl⟩ := Int.eq_ofNat_of_zero_le r60
      have hk6 : k6 < (xs.eraseIdx k4).length := by omega
      have hel6 := b6 _ _ nep hel4'
      have hx6 : (xs.eraseIdx k4)[k6]? = some (xs.eraseIdx k4)[k6] := List.getElem?_eq_getElem hk6
      obtain ⟨dd, ed, hd6⟩ := hxs4.get hx6
      rw [List.getElem?_map] at ed
      obtain ⟨⟨p2, k2⟩, ee2, rfl⟩ := Option.map_eq_some_iff.mp ed
      have hk2 : k2 ∈ kidsAt N p2 := (hes _).mp (List.mem_of_mem_eraseIdx (List.mem_of_getElem? ee2))
      refine ⟨el, _, _, _, rfl, rfl, hel6, atI_nat hx6, ?_⟩
      have tk6 : TK H5 H6 := But.tkP b6 p4'
      have d1 := d1.up tk6
      have d2 := hd6.up tk6
      have B6 : But p H H6 := But.trans' B4 b6
      have hR6 := hR.but B6 hp.kd ndp
      generalize (xs.eraseIdx k4)[k6] = v2 at d2
      obtain ⟨a1, rfl, h1⟩ := encE_at d1
      obtain ⟨a2, rfl, h2⟩ := encE_at d2
      have q1 := kidsAt_lt hk1
      have q2 := kidsAt_lt hk2
      have l1 := G.lt _ _ hk1
      have l2 := G.lt _ _ hk2
      refine ⟨_, rfl, _, rfl, encE (p1, k1), encE (p2, k2), .inl d1, .inl d2, rfl, rfl, _, rfl, ?_⟩
      cases heq : PyData.eqv (encE (p1, k1)) (encE (p2, k2)) with
      | true => exact iteF (iteF (q _ N (fun b o hb _ e => B6 _ _ hb e) p6 hR6 G (by omega) (by omega)))
      | false =>
        have hne : ¬ (p1 = p2 ∧ k1 = k2) := fun ⟨z1, z2⟩ => by
          rw [z1, z2, SeqAt.eqv_refl _ rfl] at heq
          cases heq
        refine iteT ?_
        refine ⟨_, rfl, _, rfl, a2, _, 1, _, rfl, rfl, h2, atI_nat (j := 1) rfl, _, rfl, a1, _, 0, _, rfl, rfl, h1, atI_nat (j := 0) rfl, d, N, k2, p1, rfl, hR6, G, l2, fun H7 bb S7 hbb => ⟨_, rfl, ?_⟩⟩
        have B7 : But p H H7 := But.trans' B6 (But.of S7)
        have p7 := p6.up S7
        have hR7 := hR6.up S7
        have h1 := S7 _ _ h1
        have h2 := S7 _ _ h2
        cases bb with
        | true => exact iteF (q _ N (fun b o hb _ e => B7 _ _ hb e) p7 hR7 G (by omega) (by omega))
        | false =>
          have hno := hbb rfl
          refine iteT ?_
          obtain ⟨kvs7, F, hd7, hkl, dF, hF⟩ := hR7.toF
          have hnl : N.length + 2 ≤ 10000 := by omega
          refine ⟨_, rfl, d, kvs7, rfl, hd7, _, rfl, d, kvs7, rfl, hd7, _, 1, rfl, rfl, small (show 2 ≤ 10000 by decide), fun t ht => ?_⟩
          rw [hkl]
          dsimp only
          rw [show ((N.length : Nat) : Int) + 1 = ((N.length + 1 : Nat) : Int) by omega]
          refine ⟨t, _, rfl, upd_same, rfl, _, _, rfl, _, _, rfl, rfl, ?_⟩
          have S8 := same_upd (o := .tup [V.int ((N.length : Nat) : Int), V.int ((N.length + 1 : Nat) : Int)]) ht
          generalize upd H7 t (.tup [V.int ((N.length : Nat) : Int), V.int ((N.length + 1 : Nat) : Int)]) = H8 at S8 ⊢
          -- rows[join]
          refine ⟨_, rfl, a2, _, 1, _, rfl, rfl, S8 _ _ h2, atI_nat (j := 1) rfl, small (show 1 ≤ 10000 by decide), fun lj hlj => ?_⟩
          have nlj : lj ≠ d := fun z => by rw [z, S8 _ _ hd7] at hlj; cases hlj
          have S9 := Same.trans' S8 (same_upd (o := .lst [natV k2]) hlj)
          have hlj1 : upd H8 lj (.lst [natV k2]) lj = some (.lst [natV k2]) := upd_same
          obtain ⟨H10, pj, bj, dF10⟩ := (dF.keep (H' := upd H8 lj (.lst [natV k2])) (S9 _)).put (i := N.length + 1) (by omega) hnl (.ref lj)
          have hd9 := S9 _ _ hd7
          have BD10 : But d H7 H10 := But.trans' (But.of S9) bj
          have hlj10 := bj _ _ nlj hlj1
          refine ⟨_, rfl, _, rfl, d, H10, rfl, pj, ?_⟩
          have na1 : a1 ≠ d := fun z => by rw [z, hd7] at h1; cases h1
          have na2 : a2 ≠ d := fun z => by rw [z, hd7] at h2; cases h2
          obtain ⟨kvs10, hd10, _⟩ := id dF10
          -- rows[fork]
          refine ⟨_, rfl, a1, _, 1, _, rfl, rfl, BD10 _ _ na1 h1, atI_nat (j := 1) rfl, _, rfl, small (show 2 ≤ 10000 by decide), fun lf hlf => ?_⟩
          have nlf : lf ≠ d := fun z => by rw [z, hd10] at hlf; cases hlf
          have S11 := same_upd (o := .lst [natV k1, natV (N.length + 1)]) hlf
          have hlf1 : upd H10 lf (.lst [natV k1, natV (N.length + 1)]) lf = some (.lst [natV k1, natV (N.length + 1)]) := upd_same
          obtain ⟨H12, pf, bf, dF12⟩ := (dF10.keep (H' := upd H10 lf (.lst [natV k1, natV (N.length + 1)])) (S11 _)).put (i := N.length) (by omega) hnl (.ref lf)
          have hd11 := S11 _ _ hd10
          have BD12 : But d H7 H12 := But.trans' BD10 (But.trans' (But.of S11) bf)
          have hlj12 := bf _ _ nlj (S11 _ _ hlj10)
          have hlf12 := bf _ _ nlf hlf1
          refine ⟨_, rfl, _, rfl, d, H12, rfl, pf, ?_⟩
          obtain ⟨kvs12, hd12, _⟩ := id dF12
          -- rows[p1]
          obtain ⟨r1, er1⟩ := row_ex q1
          obtain ⟨r2, er2⟩ := row_ex q2
          have k1ne : r1.kids ≠ [] := fun z => by rw [kidsAt_some er1, z] at hk1; cases hk1
          have k2ne : r2.kids ≠ [] := fun z => by rw [kidsAt_some er2, z] at hk2; cases hk2
          obtain ⟨lr1, eF1, hlr1⟩ := (hF p1 r1 er1).list k1ne
          obtain ⟨lr2, eF2, hlr2⟩ := (hF p2 r2 er2).list k2ne
          rw [← kidsAt_some er1] at hlr1
          rw [← kidsAt_some er2] at hlr2
          have hlr1c := BD12.lsD hd7 _ _ hlr1
          have g1 := dF12.get (i := p1) (by omega) (.inl (.inl q1))
          rw [show (if p1 = N.length then V.ref lf else if p1 = N.length + 1 then V.ref lj else F p1) = .ref lr1 by rw [if_neg (by omega), if_neg (by omega)]; exact eF1] at g1
          have kle1 := G.kids_le p1
          refine ⟨_, rfl, _, rfl, a1, _, 0, _, rfl, rfl, BD12 _ _ na1 h1, atI_nat (j := 0) rfl, d, _, rfl, g1, lr1, rfl, ⟨_, sl_at hlr1c⟩, fun D1 hD1 => ?_⟩
          refine lc_map (n := (kidsAt N p1).length) (fun _ => true) (fun j => natV (swap1 k1 N.length ((kidsAt N p1).getD j 0))) hD1 (by omega) (fun j H5 hj S5 => go_lst (S5 _ _ hlr1c) (by rw [nats_len]; exact hj)) (fun H5 S5 => st_lst (S5 _ _ hlr1c) (by rw [nats_len]; exact Nat.le_refl _)) (fun j H5 y H6 Kt Kf hj S5 hy hKt hKf => ?_) fun H13 S13 hl13 => ?_
          · obtain ⟨rfl, hy⟩ := hy
            have hy := hy _ (sl_at (S5 _ _ hlr1c))
            rw [nats_at hj] at hy
            cases hy
            rw [show (kidsAt N p1).getD j 0 = (kidsAt N p1)[j] by rw [List.getD_eq_getElem?_getD, List.getElem?_eq_getElem hj]; rfl] at hKt
            generalize (kidsAt N p1)[j] = kd at hKt
            refine ⟨rfl, _, rfl, _, rfl, small (show 2 ≤ 10000 by decide), fun tt htt => ?_⟩
            refine ⟨_, rfl, _, rfl, a1, _, 1, _, rfl, rfl, same_upd htt _ _ (S5 _ _ (BD12 _ _ na1 h1)), atI_nat (j := 1) rfl, rfl, .inr ⟨_, rfl, ?_⟩⟩
            have fin := hKt rfl _ (same_upd (o := .lst [natV kd, natV N.length]) htt)
            by_cases e : kd = k1
            · rw [if_pos (by rw [e]; exact decide_eq_true rfl)]
              rw [show swap1 k1 N.length kd = N.length from if_pos e] at fin
              exact ⟨tt, _, 1, _, rfl, rfl, upd_same, atI_nat (j := 1) rfl, fin⟩
            · rw [if_neg (fun z => e (by have z := of_decide_eq_true z; injection z with z; omega))]
              rw [show swap1 k1 N.length kd = kd from if_neg e] at fin
              exact ⟨tt, _, 0, _, rfl, rfl, upd_same, atI_nat (j := 0) rfl, fin⟩
          rw [swap_kept] at hl13
          have nD1 : D1 ≠ d := fun z => by rw [z, hd12] at hD1; cases hD1
          obtain ⟨H14, pp, bp, dF14⟩ := (dF12.keep (H' := H13) (S13 _)).put (i := p1) (by omega) hnl (.ref D1)
          have hd13 := S13 _ _ hd12
          have BD13 : But d H7 H13 := But.trans' BD12 (But.of S13)
          have BD14 : But d H7 H14 := But.trans' BD13 bp
          have hD14 := bp _ _ nD1 hl13
          have hlj14 := bp _ _ nlj (S13 _ _ hlj12)
          have hlf14 := bp _ _ nlf (S13 _ _ hlf12)
          refine ⟨_, rfl, _, rfl, a1, _, 0, _, rfl, rfl, BD13 _ _ na1 h1, atI_nat (j := 0) rfl, d, H14, rfl, pp, ?_⟩
          obtain ⟨kvs14, hd14, _⟩ := id dF14
          -- rows[p2]
          let ks2 : List Nat := if p2 = p1 then swapK k1 N.length (kidsAt N p2) else kidsAt N p2
          obtain ⟨l2', eF2', hl2c⟩ : ∃ l2, (if p2 = p1 then V.ref D1 else if p2 = N.length then V.ref lf else if p2 = N.length + 1 then V.ref lj else F p2) = .ref l2 ∧ H14 l2 = some (.lst (ks2.map natV)) := by
            by_cases e : p2 = p1
            · refine ⟨D1, if_pos e, ?_⟩
              show _ = some (HO.lst ((if p2 = p1 then swapK k1 N.length (kidsAt N p2) else kidsAt N p2).map natV))
              rw [if_pos e, e]
              exact hD14
            · refine ⟨lr2, by rw [if_neg e, if_neg (by omega), if_neg (by omega)]; exact eF2, ?_⟩
              show _ = some (HO.lst ((if p2 = p1 then swapK k1 N.length (kidsAt N p2) else kidsAt N p2).map natV))
              rw [if_neg e]
              exact BD14.lsD hd7 _ _ hlr2
          have ks2l : ks2.length ≤ 49 := by
            have := G.kids_le p2
            show (if p2 = p1 then swapK k1 N.length (kidsAt N p2) else kidsAt N p2).length ≤ 49
            split
            · unfold swapK
              rw [List.length_map]
              exact this
            · exact this
          have g2 := dF14.get (i := p2) (by omega) (.inl (.inl (.inl q2)))
          rw [show (if p2 = p1 then V.ref D1 else if p2 = N.length then V.ref lf else if p2 = N.length + 1 then V.ref lj else F p2) = .ref l2' from eF2'] at g2
          refine ⟨_, rfl, _, rfl, a2, _, 0, _, rfl, rfl, BD14 _ _ na2 h2, atI_nat (j := 0) rfl, d, _, rfl, g2, l2', rfl, ⟨_, sl_at hl2c⟩, fun D2 hD2 => ?_⟩
          refine lc_map (n := ks2.length) (fun _ => true) (fun j => natV (swap1 k2 (N.length + 1) (ks2.getD j 0))) hD2 (by omega) (fun j H5 hj S5 => go_lst (S5 _ _ hl2c) (by rw [nats_len]; exact hj)) (fun H5 S5 => st_lst (S5 _ _ hl2c) (by rw [nats_len]; exact Nat.le_refl _)) (fun j H5 y H6 Kt Kf hj S5 hy hKt hKf => ?_) fun H15 S15 hl15 => ?_
          · obtain ⟨rfl, hy⟩ := hy
            have hy := hy _ (sl_at (S5 _ _ hl2c))
            rw [nats_at hj] at hy
            cases hy
            rw [show ks2.getD j 0 = ks2[j] by rw [List.getD_eq_getElem?_getD, List.getElem?_eq_getElem hj]; rfl] at hKt
            generalize ks2[j] = kd at hKt
            refine ⟨rfl, _, rfl, _, rfl, small (show 2 ≤ 10000 by decide), fun tt htt => ?_⟩
            refine ⟨_, rfl, _, rfl, a2, _, 1, _, rfl, rfl, same_upd htt _ _ (S5 _ _ (BD14 _ _ na2 h2)), atI_nat (j := 1) rfl, rfl, .inr ⟨_, rfl, ?_⟩⟩
            have fin := hKt rfl _ (same_upd (o := .lst [natV kd, natV (N.length + 1)]) htt)
            by_cases e : kd = k2
            · rw [if_pos (by rw [e]; exact decide_eq_true rfl)]
              rw [show swap1 k2 (N.length + 1) kd = N.length + 1 from if_pos e] at fin
              exact ⟨tt, _, 1, _, rfl, rfl, upd_same, atI_nat (j := 1) rfl, fin⟩
            · rw [if_neg (fun z => e (by have z := of_decide_eq_true z; injection z with z; omega))]
              rw [show swap1 k2 (N.length + 1) kd = kd from if_neg e] at fin
              exact ⟨tt, _, 0, _, rfl, rfl, upd_same, atI_nat (j := 0) rfl, fin⟩
          rw [swap_kept] at hl15
          have nD2 : D2 ≠ d := fun z => by rw [z, hd14] at hD2; cases hD2
          obtain ⟨H16, pq2, bq, dF16⟩ := (dF14.keep (H' := H15) (S15 _)).put (i := p2) (by omega) hnl (.ref D2)
          have hd15 := S15 _ _ hd14
          have BD15 : But d H7 H15 := But.trans' BD14 (But.of S15)
          have BD16 : But d H7 H16 := But.trans' BD15 bq
          have hD16 := bq _ _ nD2 hl15
          have hD1f := bq _ _ nD1 (S15 _ _ hD14)
          have hlj16 := bq _ _ nlj (S15 _ _ hlj14)
          have hlf16 := bq _ _ nlf (S15 _ _ hlf14)
          refine ⟨_, rfl, _, rfl, a2, _, 0, _, rfl, rfl, BD15 _ _ na2 h2, atI_nat (j := 0) rfl, d, H16, rfl, pq2, ?_⟩
          have ML := more_len N p1 k1 p2 k2
          have ko : ∀ {i : Nat}, i < N.length → kidsAt (more N p1 k1 p2 k2) i = (if i = p2 then swapK k2 (N.length + 1) (if i = p1 then swapK k1 N.length (kidsAt N i) else kidsAt N i) else (if i = p1 then swapK k1 N.length (kidsAt N i) else kidsAt N i)) := fun h => kids_old h
          refine q H16 (more N p1 k1 p2 k2) (fun b o hb hbd e => BD16 _ _ hbd (B7 _ _ hb e)) ?_ ?_ (more_loose G hk1 hk2 hne hn hj hno) (by rw [ML]; exact Nat.le_refl _) (more_jlen G hk1 hk2 hne)
          · obtain ⟨x1, x2, x3, x4, x5, x6⟩ := p7
            exact ⟨x1, x2, x3, BD16 _ _ (Ne.symm ndp) x4, BD16.lsD hd7 _ _ x5, x6⟩
          · refine RowsD.ofF (by rw [ML]; exact dF16) (fun i hi => ?_) fun i r' er' => ?_
            · rw [ML] at hi
              by_cases h : i < N.length
              · exact .inl (.inl (.inl (.inl h)))
              · by_cases h2 : i = N.length
                · exact .inl (.inl (.inr h2))
                · exact .inl (.inl (.inl (.inr (by omega))))
            · have hi := (List.getElem?_eq_some_iff.mp er').1
              rw [ML] at hi
              show RowVal _ H16 (if i = p2 then V.ref D2 else if i = p1 then V.ref D1 else if i = N.length then V.ref lf else if i = N.length + 1 then V.ref lj else F i) r'
              by_cases c2 : i = p2
              · rw [if_pos c2]
                have kk := ko (i := i) (by omega)
                rw [if_pos c2] at kk
                refine RowVal.of_kids ?_ fun z => ?_
                · rw [← kidsAt_some er', kk, c2]
                  exact hD16
                · have := (mem_old G hk1 hk2 hne (i := i) (j := N.length + 1) (by omega)).mpr (.inr (.inr ⟨rfl, c2⟩))
                  rw [kidsAt_some er', z] at this
                  cases this
              · rw [if_neg c2]
                by_cases c1 : i = p1
                · rw [if_pos c1]
                  have kk := ko (i := i) (by omega)
                  rw [if_neg c2, if_pos c1] at kk
                  refine RowVal.of_kids ?_ fun z => ?_
                  · rw [← kidsAt_some er', kk, c1]
                    exact hD1f
                  · have := (mem_old G hk1 hk2 hne (i := i) (j := N.length) (by omega)).mpr (.inr (.inl ⟨rfl, c1⟩))
                    rw [kidsAt_some er', z] at this
                    cases this
                · rw [if_neg c1]
                  by_cases c3 : i = N.length
                  · rw [if_pos c3]
                    subst c3
                    rw [more_fork] at er'
                    cases er'
                    exact ⟨lf, rfl, trivial, hlf16⟩
                  · rw [if_neg c3]
                    by_cases c4 : i = N.length + 1
                    · rw [if_pos c4]
                      subst c4
                      rw [more_join] at er'
                      cases er'
                      exact ⟨lj, rfl, trivial, hlj16⟩
                    · rw [if_neg c4]
                      have hi2 : i < N.length := by omega
                      rw [more_old hi2] at er'
                      obtain ⟨r, er, rfl⟩ := Option.map_eq_some_iff.mp er'
                      have en : newR N.length p1 k1 p2 k2 i r = r := by
                        unfold newR
                        dsimp only
                        rw [if_neg c2, if_neg c1]
                      rw [en]
                      exact (hF i r er).mono fun l ys _ e => ⟨trivial, BD16.lsD hd7 _ _ e⟩
end
end JT
/-! A8: the rows numbered. -/
namespace JT
open PySem PySem.Spec PyProof.Rows L2 PySem.W
abbrev s__law_numbered : Stmt := topS 66
abbrev n__law_numbered : List Str := ["_law_rows_here", "_law_deep", "_law_left", "_law_at", "_law_far", "_law_order", "_law_anew", "_law_found", "_law_row", "_law_kids_here", "_law_kid", "_law_k"]
theorem sc__law_numbered : FnScope n__law_numbered ["_law_rows_here"] (defScope s__law_numbered) :=
  ⟨rfl, rfl, rfl, by decide +kernel, rfl, by decide +kernel, by decide +kernel⟩
section
variable {P : Program} {w : World} {K : PySem.W.Frag} {mg : Str → Option Value} {base : Heap}
/-- what is left to walk weighs the less the deeper it lies -/
def wtL (n : Nat) (ρ : Nat → Nat) (L : List (Nat × Nat)) : Nat := (L.map fun e => 50 ^ (n - ρ e.1)).sum
theorem wtL_app (n : Nat) (ρ : Nat → Nat) (A B : List (Nat × Nat)) : wtL n ρ (A ++ B) = wtL n ρ A + wtL n ρ B := by
  unfold wtL
  rw [List.map_append, List.sum_append]
theorem wtL_kids {n : Nat} {ρ : Nat → Nat} {x f : Nat} (hx : ρ x < n) : ∀ {ks : List Nat}, (∀ k ∈ ks, ρ x < ρ k) → wtL n ρ (ks.map fun k => (k, f)) ≤ ks.length * 50 ^ (n - ρ x - 1)
  | [], _ => Nat.zero_le _
  | k :: ks, h => by
    have ih := wtL_kids (f := f) hx (ks := ks) fun k' h' => h k' (List.mem_cons_of_mem _ h')
    have hk := h k (by simp)
    have e : wtL n ρ ((k :: ks).map fun k => (k, f)) = 50 ^ (n - ρ k) + wtL n ρ (ks.map fun k => (k, f)) := rfl
    have p : 50 ^ (n - ρ k) ≤ 50 ^ (n - ρ x - 1) := Nat.pow_le_pow_right (by decide) (by omega)
    rw [e, List.length_cons, Nat.succ_mul]
    omega
theorem wtL_less {n : Nat} {ρ : Nat → Nat} {x f : Nat} {ks : List Nat} (h : ∀ k ∈ ks, ρ x < ρ k ∧ ρ k ≤ n) (l : ks.length ≤ 49) : wtL n ρ (ks.map fun k => (k, f)) < 50 ^ (n - ρ x) := by
  cases ks with
  | nil => exact Nat.pow_pos (by decide)
  | cons k ks =>
    have hk := h k (by simp)
    have hx : ρ x < n := by omega
    have z := wtL_kids (f := f) hx (ks := k :: ks) fun k' h' => (h k' h').1
    have e : 50 ^ (n - ρ x) = 50 ^ (n - ρ x - 1) * 50 := by
      rw [← Nat.pow_succ]
      congr 1
      omega
    have p : 0 < 50 ^ (n - ρ x - 1) := Nat.pow_pos (by decide)
    have m := Nat.mul_le_mul_right (50 ^ (n - ρ x - 1)) l
    omega
/-- depths told so far, L left to walk -/
structure Far (N : Net) (L : List (Nat × Nat)) (F : Nat → Option Nat) : Prop where
  lt : ∀ e ∈ L, e.1 < N.length
  dn : ∀ x a, F x = some a → ∀ k ∈ kidsAt N x, (∃ b, F k = some b ∧ a + 1 ≤ b) ∨ ∃ g, (k, g) ∈ L ∧ a + 1 ≤ g
  start : (∃ a, F 0 = some a) ∨ (0, 0) ∈ L
  zl : ∀ e ∈ L, e.1 = 0 → e.2 = 0
  zf : ∀ a, F 0 = some a → a = 0
theorem no_zero_kid {N : Net} (G : Loose N) {i : Nat} (h : 0 ∈ kidsAt N i) : False := by
  have h0 := G.led 0 G.pos
  have h1 := List.length_eq_zero_iff.mp (h0.trans rfl)
  have h2 := mem_ways.mpr h
  rw [h1] at h2
  cases h2
theorem Far.step {N : Net} (G : Loose N) {L0 : List (Nat × Nat)} {x far c : Nat} {F : Nat → Option Nat} (h : Far N (L0 ++ [(x, far)]) F) (h1 : far ≤ c) (h2 : ∀ b, F x = some b → b ≤ c) (h3 : c = far ∨ F x = some c) :
    Far N (L0 ++ (kidsAt N x).map fun k => (k, far + 1)) (fun j => if j = x then some c else F j) := by
  obtain ⟨ρ, hρ⟩ := G.rank
  refine ⟨fun e he => ?_, fun y a hy k hk => ?_, ?_, fun e he z => ?_, fun a ha => ?_⟩
  · rcases List.mem_append.mp he with he | he
    · exact h.lt e (List.mem_append_left _ he)
    · obtain ⟨k, hk, rfl⟩ := List.mem_map.mp he
      exact G.lt x k hk
  · have hy : (if y = x then some c else F y) = some a := hy
    have hyk := hρ y k hk
    by_cases e : y = x
    · rw [if_pos e] at hy
      have hca : c = a := Option.some.inj hy
      subst hca
      subst e
      have kne : k ≠ y := fun z => by rw [z] at hyk; omega
      rcases h3 with h3 | h3
      · subst h3
        exact .inr ⟨_, List.mem_append_right _ (List.mem_map_of_mem hk), Nat.le_refl _⟩
      · rcases h.dn y c h3 k hk with ⟨b, hb, l⟩ | ⟨g, hg, l⟩
        · exact .inl ⟨b, by rw [if_neg kne]; exact hb, l⟩
        · rcases List.mem_append.mp hg with hg | hg
          · exact .inr ⟨g, List.mem_append_left _ hg, l⟩
          · have := List.mem_singleton.mp hg
            injection this with u v
            exact absurd u kne
    · rw [if_neg e] at hy
      rcases h.dn y a hy k hk with ⟨b, hb, l⟩ | ⟨g, hg, l⟩
      · by_cases ek : k = x
        · refine .inl ⟨c, if_pos ek, ?_⟩
          have := h2 b (by rw [← ek]; exact hb)
          omega
        · exact .inl ⟨b, by rw [if_neg ek]; exact hb, l⟩
      · rcases List.mem_append.mp hg with hg | hg
        · exact .inr ⟨g, List.mem_append_left _ hg, l⟩
        · have := List.mem_singleton.mp hg
          injection this with u v
          subst u v
          exact .inl ⟨c, if_pos rfl, by omega⟩
  · by_cases e : 0 = x
    · exact .inl ⟨c, if_pos e⟩
    · rcases h.start with ⟨a, ha⟩ | ha
      · exact .inl ⟨a, by rw [if_neg e]; exact ha⟩
      · rcases List.mem_append.mp ha with ha | ha
        · exact .inr (List.mem_append_left _ ha)
        · have := List.mem_singleton.mp ha
          injection this with u v
          exact absurd u e
  · rcases List.mem_append.mp he with he | he
    · exact h.zl e (List.mem_append_left _ he) z
    · obtain ⟨k, hk, rfl⟩ := List.mem_map.mp he
      have z : k = 0 := z
      subst z
      exact (no_zero_kid G hk).elim
  · have ha : (if 0 = x then some c else F 0) = some a := ha
    by_cases e : 0 = x
    · rw [if_pos e] at ha
      cases ha
      subst e
      have f0 : far = 0 := h.zl (0, far) (by simp) rfl
      rcases h3 with h3 | h3
      · omega
      · exact h.zf _ h3
    · rw [if_neg e] at ha
      exact h.zf a ha
theorem Far.all {N : Net} (G : Loose N) {F : Nat → Option Nat} (h : Far N [] F) : ∀ i, i < N.length → ∃ a, F i = some a := by
  have cl : ∀ {i m j}, Dn N i m j → (∃ a, F i = some a) → ∃ a, F j = some a := fun {i m j} hd => by
    induction hd with
    | refl => exact id
    | step hk _ ih =>
      rintro ⟨a, ha⟩
      rcases h.dn _ a ha _ hk with ⟨b, hb, _⟩ | ⟨g, hg, _⟩
      · exact ih ⟨b, hb⟩
      · cases hg
  intro i hi
  obtain ⟨m, hm⟩ := G.reach i hi
  refine cl hm (h.start.elim id fun z => by cases z)
theorem DGet.n {H : Hp} {p : Addr} {n : Nat} {F : Nat → Option Nat} (h : DictN H p n F) (i : Nat) : DGet H p (natV i) ((F i).map natV) := by
  obtain ⟨kvs, e, _, _, v⟩ := h
  have z := DGet.k (k := nk i) e
  rw [v] at z
  exact z
theorem DictN.put {H : Hp} {p : Addr} {n : Nat} {F : Nat → Option Nat} (h : DictN H p n F) {i : Nat} (hi : i < n) (hn : n ≤ 10000) (m : Nat) : ∃ H', DPut H p (natV i) (natV m) H' ∧ But p H H' ∧ DictN H' p n (fun j => if j = i then some m else F j) := by
  obtain ⟨kvs, e, nd, hk, hv⟩ := h
  have kl := keysN_len nd hk
  exact ⟨_, DPut.k (k := nk i) e (smallT (by omega)), fun b o hb eb => by rw [upd_ne hb]; exact eb, dictN_put nd hk hv hi⟩
theorem dq_dts {H : Hp} {a : Addr} {xs : List V} {ds : List PyData} (h : H a = some (.lst xs)) (d : DTs H xs ds) : Dq H (.ref a) (.list ds) := .inr ⟨a, _, _, rfl, h, d, rfl⟩
theorem shaped_encE (l : List (Nat × Nat)) : SeqAt.shaped (.list (l.map encE)) = true := by
  have h1 : ∀ l : List (Nat × Nat), PyData.canLayAll0 (l.map encE) = true := fun l => by
    induction l with
    | nil => rfl
    | cons e l ih =>
      show ((encE e).canLay0 && PyData.canLayAll0 (l.map encE)) = true
      rw [ih]
      rfl
  have h2 : ∀ l : List (Nat × Nat), PyData.depthAll (l.map encE) ≤ 1 := fun l => by
    induction l with
    | nil => exact Nat.zero_le _
    | cons e l ih =>
      show max (encE e).depth (PyData.depthAll (l.map encE)) ≤ 1
      have : (encE e).depth = 1 := rfl
      omega
  show (PyData.canLayAll0 (l.map encE) && decide (PyData.depthAll (l.map encE) + 1 ≤ 64)) = true
  rw [h1]
  simp
  have := h2 l
  omega
theorem ne_nil_encE (l : List (Nat × Nat)) : (if true = true then !PyData.eqv (.list (l.map encE)) (.list []) else PyData.eqv (.list (l.map encE)) (.list [])) = !l.isEmpty := by cases l <;> rfl
theorem dts_snoc {H : Hp} : ∀ {ds : List PyData} {d : PyData} {xs : List V}, DTs H xs (ds ++ [d]) → ∃ xs0 v, xs = xs0 ++ [v] ∧ DTs H xs0 ds ∧ DT H v d
  | [], d, xs, h => by
    cases h with
    | cons h1 h2 =>
      cases h2
      exact ⟨[], _, rfl, .nil, h1⟩
  | d0 :: ds, d, xs, h => by
    cases h with
    | cons h1 h2 =>
      obtain ⟨xs0, v, e, h3, h4⟩ := dts_snoc h2
      exact ⟨_ :: xs0, v, by rw [e]; rfl, .cons h1 h3, h4⟩
theorem paired_by_get {α β : Type} {F : α → β → Prop} : ∀ {l : List α} {m : List β}, l.length = m.length → (∀ (i : Nat) a b, l[i]? = some a → m[i]? = some b → F a b) → Paired F l m
  | [], [], _, _ => .nil
  | [], _ :: _, h, _ => by cases h
  | _ :: _, [], h, _ => by cases h
  | a :: l, b :: m, h, k => .cons (k 0 a b rfl rfl) (paired_by_get (by simpa using h) fun i x y e1 e2 => k (i + 1) x y e1 e2)
theorem merge_keep : ∀ (l acc : List (Key × V)) (k : Key), k ∉ l.map (·.1) → valV (mergeK acc l) k = valV acc k
  | [], acc, k, _ => rfl
  | (k0, v0) :: l, acc, k, h => by
    show valV (mergeK (putK acc k0 v0) l) k = _
    rw [List.map_cons, List.mem_cons] at h
    rw [merge_keep l _ k fun z => h (.inr z), valV_put, if_neg fun z => h (.inl z)]
theorem merge_val : ∀ (l acc : List (Key × V)), (l.map (·.1)).Nodup → ∀ k v, (k, v) ∈ l → valV (mergeK acc l) k = some v
  | [], acc, _, k, v, h => by cases h
  | (k0, v0) :: l, acc, nd, k, v, h => by
    show valV (mergeK (putK acc k0 v0) l) k = _
    rw [List.map_cons, List.nodup_cons] at nd
    rcases List.mem_cons.mp h with e | h
    · cases e
      rw [merge_keep l _ _ nd.1, valV_put, if_pos rfl]
    · exact merge_val l _ nd.2 k v h
theorem sort_pairs (zs : List V) (ix : V → Nat) (D : Nat → Nat) : ∃ us, us.Perm zs ∧ (us.map ix).Pairwise (fun a b => D a ≤ D b) ∧ zs.mergeSort (dataLe false fun v => .tuple [.int (D (ix v) : Nat), .int (ix v : Nat)]) = us := by
  refine ⟨_, List.mergeSort_perm _ _, ?_, rfl⟩
  have e : dataLe false (fun v => PyData.tuple [.int (D (ix v) : Nat), .int (ix v : Nat)]) = fun p q => decide (((D (ix p) : Nat) : Int) < ((D (ix q) : Nat) : Int) ∨ (((D (ix p) : Nat) : Int) = ((D (ix q) : Nat) : Int) ∧ ((ix p : Nat) : Int) ≤ ((ix q : Nat) : Int))) := dataLe_ii (fun v => ((D (ix v) : Nat) : Int)) (fun v => ((ix v : Nat) : Int))
  rw [e]
  have z := List.pairwise_mergeSort (le := fun p q => decide (((D (ix p) : Nat) : Int) < ((D (ix q) : Nat) : Int) ∨ (((D (ix p) : Nat) : Int) = ((D (ix q) : Nat) : Int) ∧ ((ix p : Nat) : Int) ≤ ((ix q : Nat) : Int))))
    (fun a b c h1 h2 => by
      have h1 := of_decide_eq_true h1
      have h2 := of_decide_eq_true h2
      exact decide_eq_true (by omega)) (fun a b => by
      simp only [Bool.or_eq_true, decide_eq_true_eq]
      omega) zs
  exact List.pairwise_map.mpr (z.imp fun {a b} q => by
    have q := of_decide_eq_true q
    omega)
def adrV : V → Addr
  | .ref a => a
  | _ => 0
def spLNumb : Sp := fun vs H Q _ => ∃ d N, vs = [.ref d] ∧ RowsD H d N ∧ Loose N ∧ ∀ H' p N', Same H H' → DT H' (.ref p) (encN N') → Good N' → N'.length = N.length → Q (.ref p) H'
theorem c__law_numbered (T : Top mg) (D : Def K mg "_law_numbered" "_law_numbered" s__law_numbered) : Cal P w K mg base 1 "_law_numbered" spLNumb := by
  refine D.cal sc__law_numbered (fun _ _ _ _ _ _ us hl => match us, hl with | [_], _ => rfl) (fun vs H Q E h => ?_) fun f cdv A outer s H vs Q E hr hsp => ?_
  · obtain ⟨_, _, rfl, _⟩ := h; rfl
  have hu := hu_of hr
  have hu64 := hu64_of hr
  refine ⟨_, (pss_cons (ps_set (i := 1) sc__law_numbered.nd rfl (Or.inr rfl) pe_dnewK)
    (pss_cons (ps_set (i := 2) sc__law_numbered.nd rfl (Or.inl rfl) (pe_lst (pa_cons (pe_tup (pa_cons pe_int (pa_cons pe_int pa_nil))) pa_nil)))
    (pss_cons (ps_while PassesOwn.never (pt_cmpR (ned hu64) (pv 2) (pe_lst pa_nil) (nomark _)) (pss_cons (ps_asg (pe_ml0 PySem.F.slot_list_pop PySem.F.type_list_pop mt_pop (pv 2)) (pgt (n := 2) rfl (pgs_cons (pg_name (i := 3) sc__law_numbered.nd rfl (Or.inl rfl)) (pgs_cons (pg_name (i := 4) sc__law_numbered.nd rfl (Or.inr rfl)) pgs_nil))))
    (pss_cons (ps_dput hu (pv 1) (pv 3) (pe_callB (call_max2 rfl) rfl T.max (by decide +kernel) (pa_cons (pv 4) (pa_cons (pe_dget2 hu (pv 1) (pv 3) pe_int ⟨rfl, rfl, rfl, rfl⟩) pa_nil))) rfl)
    (pss_one (ps_if (pt_not (pt_val (pe_isi (T := "str") rfl T.isinstance rfl T.str (by decide +kernel) (pe_dget hu (pv 0) (pv 3) (fun _ _ => rfl))))) (pss_one (ps_expr (pe_ml PySem.F.slot_list_extend PySem.F.type_list_extend mt_extend (pv 2) (pa_cons (pe_lc (own := [("_law_kid", 10)]) (g := gName 10) (tt := tYes) rfl sc__law_numbered.nd (pi_listK K (pe_dget hu (pv 0) (pv 3) (fun _ _ => rfl))) (blkOk_by (own := [("_law_kid", 10)]) (N := n__law_numbered) (sc := defScope s__law_numbered) (by decide +kernel)) (fun _ _ _ _ _ => (pg_name (i := 10) sc__law_numbered.nd rfl (Or.inl rfl))) (fun _ _ _ _ _ => pts_nil) (fun _ _ _ _ _ => (pe_tup (pa_cons (pv 10) (pa_cons (pe_op op_add (pv 4) pe_int) pa_nil))))) pa_nil)))) pss_nil)))))
    (pss_cons (ps_setLc (i := 5) (own := [("_law_far", 4), ("_law_at", 3)]) (tt := tYes) rfl sc__law_numbered.nd rfl rfl (sw_true rfl rfl rfl (by decide +kernel)) (pi_listK K (pe_callB (cr_sortedData hr) rfl T.sorted (by decide +kernel) (pa_cons (pe_lock (pe_lc (own := [("_law_at", 3)]) (g := gName 3) (tt := tYes) rfl sc__law_numbered.nd (pi_keys (pv 1)) (blkOk_by (own := [("_law_at", 3)]) (N := n__law_numbered) (sc := defScope s__law_numbered) (by decide +kernel)) (fun _ _ _ _ _ => (pg_name (i := 3) sc__law_numbered.nd rfl (Or.inl rfl))) (fun _ _ _ _ _ => pts_nil) (fun _ _ _ _ _ => (pe_tup (pa_cons (pe_dget hu (pv 1) (pv 3) (fun _ _ => rfl)) (pa_cons (pv 3) pa_nil)))))) pa_nil))) (blkOk_by (own := [("_law_far", 4), ("_law_at", 3)]) (N := n__law_numbered) (sc := defScope s__law_numbered) (by decide +kernel)) (fun _ _ _ _ _ => (pgt (n := 2) rfl (pgs_cons (pg_name (i := 4) sc__law_numbered.nd rfl (Or.inl rfl)) (pgs_cons (pg_name (i := 3) sc__law_numbered.nd rfl (Or.inl rfl)) pgs_nil)))) (fun _ _ _ _ _ => pts_nil) (fun _ _ _ _ _ => (pv 3)))
    (pss_cons (ps_set (i := 6) sc__law_numbered.nd rfl (Or.inr rfl) (pe_callTy (dctP rfl) rfl T.dict (by decide +kernel) (pa_cons (pe_lc (own := [("_law_k", 11), ("_law_at", 3)]) (tt := tYes) rfl sc__law_numbered.nd (pi_enum rfl T.enumerate (pa_cons (pv 5) pa_nil)) (blkOk_by (own := [("_law_k", 11), ("_law_at", 3)]) (N := n__law_numbered) (sc := defScope s__law_numbered) (by decide +kernel)) (fun _ _ _ _ _ => (pgt (n := 2) rfl (pgs_cons (pg_name (i := 11) sc__law_numbered.nd rfl (Or.inl rfl)) (pgs_cons (pg_name (i := 3) sc__law_numbered.nd rfl (Or.inl rfl)) pgs_nil)))) (fun _ _ _ _ _ => pts_nil) (fun _ _ _ _ _ => (pe_tup (pa_cons (pv 3) (pa_cons (pv 11) pa_nil))))) pa_nil)))
    (pss_cons (ps_set (i := 7) sc__law_numbered.nd rfl (Or.inl rfl) (pe_lst pa_nil))
    (pss_cons (ps_for PassesOwn.never rfl (pi_listK K (pv 5)) (pg_name (i := 3) sc__law_numbered.nd rfl (Or.inl rfl))
    (pss_cons (ps_set (i := 8) sc__law_numbered.nd rfl (Or.inl rfl) (pe_tup (pa_cons pe_str (pa_cons (pe_dget hu (pv 0) (pv 3) (fun _ _ => rfl)) pa_nil))))
    (pss_cons (ps_if (pt_not (pt_val (pe_isi (T := "str") rfl T.isinstance rfl T.str (by decide +kernel) (pe_dget hu (pv 0) (pv 3) (fun _ _ => rfl))))) (pss_cons (ps_set (i := 9) sc__law_numbered.nd rfl (Or.inl rfl) (pe_callTy tupOf rfl T.tuple (by decide +kernel) (pa_cons (pe_callB srtI rfl T.sorted (by decide +kernel) (pa_cons (pe_lc (own := [("_law_kid", 10)]) (g := gName 10) (tt := tYes) rfl sc__law_numbered.nd (pi_listK K (pe_dget hu (pv 0) (pv 3) (fun _ _ => rfl))) (blkOk_by (own := [("_law_kid", 10)]) (N := n__law_numbered) (sc := defScope s__law_numbered) (by decide +kernel)) (fun _ _ _ _ _ => (pg_name (i := 10) sc__law_numbered.nd rfl (Or.inl rfl))) (fun _ _ _ _ _ => pts_nil) (fun _ _ _ _ _ => (pe_dget hu (pv 6) (pv 10) (fun _ _ => rfl)))) pa_nil)) pa_nil)))
    (pss_one (ps_set (i := 8) sc__law_numbered.nd rfl (Or.inl rfl) (pe_ifExp (pt_cmpR op_gt (pe_callB lenq rfl T.len PySem.boot_len (pa_cons (pv 9) pa_nil)) pe_int (nomark _)) (pe_tup (pa_cons pe_str (pa_cons (pv 9) pa_nil))) (pe_tup (pa_cons pe_str (pa_cons (pe_ix ixt (pv 9) pe_int (fun _ _ => rfl)) pa_nil))))))) pss_nil)
    (pss_one (ps_expr (pe_ml PySem.F.slot_list_append PySem.F.type_list_append mt_append (pv 7) (pa_cons (pv 8) pa_nil)))))))
    (pss_one (ps_ret (pe_callTy tupOf rfl T.tuple (by decide +kernel) (pa_cons (pv 7) pa_nil))))))))))), ?_⟩
  obtain ⟨d, N, rfl, hR, G, q⟩ := hsp
  have h49 := G.len
  obtain ⟨ρ, hρ, hρn⟩ := G.rank_small
  refine fun dp hdp => ?_
  have S1 := same_upd (o := .dK []) hdp
  have dn1 : DictN (upd H dp (.dK [])) dp N.length (fun _ => none) := ⟨[], upd_same, List.nodup_nil, by simp, fun i => rfl⟩
  generalize upd H dp (.dK []) = H1 at S1 dn1 ⊢
  refine ⟨small (show 2 ≤ 10000 by decide), fun t1 ht1 => ⟨small (show 1 ≤ 10000 by decide), fun l hl => ?_⟩⟩
  have S2 := Same.trans' (same_upd (o := .tup [V.int 0, V.int 0]) ht1) (same_upd (o := .lst [.ref t1]) hl)
  have hl2 : upd (upd H1 t1 (.tup [V.int 0, V.int 0])) l (.lst [.ref t1]) l = some (.lst [.ref t1]) := upd_same
  have d2 : DTs (upd (upd H1 t1 (.tup [V.int 0, V.int 0])) l (.lst [.ref t1])) [.ref t1] ([(0, 0)].map encE) := .cons (encE_mk ((same_upd (o := .lst [.ref t1]) hl) _ _ upd_same)) .nil
  have S02 := Same.trans' S1 S2
  have dn2 := dn1.frame fun o e => S2 _ _ e
  have l0 : H l = none := by
    cases e : H l with
    | none => rfl
    | some o =>
      have := (same_upd (o := .tup [V.int 0, V.int 0]) ht1) _ _ (S1 _ _ e)
      rw [this] at hl
      cases hl
  generalize upd (upd H1 t1 (.tup [V.int 0, V.int 0])) l (.lst [.ref t1]) = H2 at S02 hl2 d2 dn2 ⊢
  have ndl : dp ≠ l := fun z => by
    obtain ⟨_, e, _⟩ := dn2
    rw [z, hl2] at e
    cases e
  let W : Nat → L2.St → Hp → Prop := fun m σ H4 => (∃ s3 s4 s5 s6 s7 s8 s9 s10 s11, σ = [some (.ref d), some (.ref dp), some (.ref l), s3, s4, s5, s6, s7, s8, s9, s10, s11]) ∧ Same H H4 ∧ ∃ (L : List (Nat × Nat)) (xs : List V) (F : Nat → Option Nat), H4 l = some (.lst xs) ∧ DTs H4 xs (L.map encE) ∧ DictN H4 dp N.length F ∧ Far N L F ∧ (∀ i e, L[i]? = some e → i ≤ 49 * ρ e.1) ∧ m = wtL N.length ρ L
  refine ⟨W, ⟨_, ⟨_, _, _, _, _, _, _, _, _, rfl⟩, S02, [(0, 0)], _, _, hl2, d2, dn2, ⟨(fun e he => by rw [List.mem_singleton.mp he]; exact G.pos), (fun x a h => by cases h), .inr (by simp), by simp, (fun a h => by cases h)⟩, fun i e h => ?_, rfl⟩, ?_⟩
  · have := (List.getElem?_eq_some_iff.mp h).1
    simp at this
    omega
  rintro m σ H4 ⟨⟨s3, s4, s5, s6, s7, s8, s9, s10, s11, rfl⟩, S4, L, xs, F, hl4, hxs, dn4, far, hpos, rfl⟩
  refine ⟨_, rfl, Nat.zero_le _, fun q1 hq1 => ⟨_, _, dq_dts ((same_upd hq1) _ _ hl4) (hxs.up (tk_new hq1)), dq_nil upd_same, shaped_encE _, by decide, ?_⟩⟩
  have S5 := Same.trans' S4 (same_upd (o := .lst []) hq1)
  have hl5 := (same_upd (o := .lst []) hq1) _ _ hl4
  have hxs5 := hxs.up (tk_new (o := .lst []) hq1)
  have dn5 := dn4.frame fun o e => (same_upd (o := .lst []) hq1) _ _ e
  generalize upd H4 q1 (.lst []) = H5 at S5 hl5 hxs5 dn5 ⊢
  rw [ne_nil_encE]
  refine ⟨_, rfl, ?_⟩
  rcases List.eq_nil_or_concat L with e | ⟨L0, e0, e⟩
  · subst e
    refine iteF ?_
    let Dn : Nat → Nat := fun i => (F i).getD 0
    have hF := far.all G
    have hDn : ∀ i, i < N.length → F i = some (Dn i) := fun i hi => by
      obtain ⟨m, e⟩ := hF i hi
      show F i = some ((F i).getD 0)
      rw [e]
      rfl
    obtain ⟨kvs, f1, f2, f3, f4⟩ := id dn5
    have f3' : ∀ k, k ∈ kvs.map (·.1) ↔ ∃ i, i < N.length ∧ k = nk i := fun k => by
      constructor
      · exact f3 k
      · rintro ⟨i, hi, rfl⟩
        rw [mem_keys, f4, hDn i hi]
        rfl
    obtain ⟨o0, eo, po0⟩ := keys_nat f2 f3'
    have o0l : o0.length = N.length := by rw [po0.length_eq, List.length_range]
    have kl : kvs.length = N.length := by
      have := congrArg List.length eo
      rw [List.length_map, List.length_map, List.length_map, o0l] at this
      exact this
    have kvk : ∀ (j : Nat) k v, kvs[j]? = some (k, v) → k = nk (o0.getD j 0) ∧ o0.getD j 0 < N.length := fun j k v e => by
      have z : (kvs.map (·.1))[j]? = some k := by rw [List.getElem?_map, e]; rfl
      rw [eo, List.getElem?_map, List.getElem?_map] at z
      obtain ⟨i', e1, e2⟩ := Option.map_eq_some_iff.mp z
      obtain ⟨i, e3, e4⟩ := Option.map_eq_some_iff.mp e1
      have g : o0.getD j 0 = i := by rw [List.getD_eq_getElem?_getD, e3]; rfl
      rw [g]
      exact ⟨by rw [← e2, ← e4]; rfl, List.mem_range.mp (po0.mem_iff.mp (List.mem_of_getElem? e3))⟩
    refine ⟨dp, .dK kvs, f1, trivial, fun od => ?_⟩
    have hz0 : upd H5 dp (.frz od (.dK kvs)) dp = some (.frz od (.dK kvs)) := upd_same
    have tkz : TK H5 (upd H5 dp (.frz od (.dK kvs))) := tk_set f1 no_dK
    refine ⟨_, rfl, dp, od, rfl, .inl ⟨kvs, hz0, fun D1 hD1 => ?_⟩⟩
    refine lc_rel (n := kvs.length) (fun j y H8 => ∃ r, y = .ref r ∧ H8 r = some (.tup [natV (Dn (o0.getD j 0)), natV (o0.getD j 0)])) (fun j y H8 H9 tk ⟨r, e, h⟩ => ⟨r, e, tk _ _ h (.inl ⟨_, rfl⟩)⟩) hD1 (by omega) (fun j H8 hj S8 => ⟨S8 _ _ hz0, hj⟩) (fun H8 S8 => ⟨S8 _ _ hz0, Nat.le_refl _⟩) (fun j H8 y H9 Kt Kf hj S8 hy hKt => ?_) fun H8 zs S8 hzs hzl hzR => ?_
    · obtain ⟨rfl, k, v, hkv, rfl⟩ := hy
      obtain ⟨ek, hi⟩ := kvk j k v hkv
      subst ek
      generalize o0.getD j 0 = i at hi hKt
      have zg : DGet H9 dp (natV i) (valV kvs (nk i)) := .inl ⟨kvs, nk i, .inr ⟨od, S8 _ _ hz0⟩, rfl, rfl⟩
      rw [f4, hDn i hi] at zg
      refine ⟨rfl, _, rfl, _, rfl, dp, _, rfl, zg, ?_⟩
      exact ⟨_, rfl, small (show 2 ≤ 10000 by decide), fun r hr2 => hKt _ _ (same_upd hr2) ⟨r, rfl, by rw [upd_same]; rfl⟩⟩
    · refine ⟨S8 _ _ hz0, ?_⟩
      have S58 : Same H5 (upd H8 dp (.dK kvs)) := fun b o e => by
        by_cases h : b = dp
        · rw [h] at e ⊢
          rw [f1] at e
          cases e
          exact upd_same
        · rw [upd_ne h]
          exact S8 _ _ (by rw [upd_ne h]; exact e)
      have nD1 : D1 ≠ dp := fun z => by rw [z, S8 _ _ hz0] at hzs; cases hzs
      have hzs8 : upd H8 dp (.dK kvs) D1 = some (.lst zs) := by rw [upd_ne nD1]; exact hzs
      have hzR8 : ∀ (j : Nat) y, zs[j]? = some y → ∃ r, y = .ref r ∧ upd H8 dp (.dK kvs) r = some (.tup [natV (Dn (o0.getD j 0)), natV (o0.getD j 0)]) := fun j y e => by
        obtain ⟨r, e1, h⟩ := hzR j y e
        exact ⟨r, e1, by rw [upd_ne (fun z => by rw [z, S8 _ _ hz0] at h; cases h)]; exact h⟩
      generalize upd H8 dp (.dK kvs) = H8' at S58 hzs8 hzR8 ⊢
      have zin : ∀ y ∈ zs, ∃ r, y = .ref r ∧ H8' r = some (.tup [natV (Dn (idxIn H8' y)), natV (idxIn H8' y)]) := fun y hy => by
        obtain ⟨j, hj⟩ := List.mem_iff_getElem?.mp hy
        obtain ⟨r, e, h⟩ := hzR8 j y hj
        have z := idxIn_eq h
        rw [e, z]
        exact ⟨r, rfl, h⟩
      refine ⟨D1, zs, fun y => .tuple [.int (Dn (idxIn H8' y) : Nat), .int (idxIn H8' y : Nat)], rfl, .inl (.inl hzs8), fun y hy => ?_, ?_, ?_, fun y hy => (by decide : 1 ≤ 30), fun sp hsp => ?_⟩
      · obtain ⟨r, e, h⟩ := zin y hy
        dsimp only
        generalize idxIn H8' y = k at h
        rw [e]
        exact DT.dp _ _ (.tup h (.cons (.int _) (.cons (.int _) .nil)))
      · intro x hx y hy
        obtain ⟨v1, _, rfl⟩ := List.mem_map.mp hx
        obtain ⟨v2, _, rfl⟩ := List.mem_map.mp hy
        rfl
      · refine .inl fun x hx => ?_
        obtain ⟨v1, _, rfl⟩ := List.mem_map.mp hx
        exact ⟨_, _, rfl⟩
      obtain ⟨us, pus, sus, eus⟩ := sort_pairs zs (idxIn H8') Dn
      rw [eus]
      have ezs : zs.map (idxIn H8') = o0 := by
        apply List.ext_getElem
        · simp [hzl, kl, o0l]
        · intro j h1 h2
          simp at h1
          obtain ⟨r, e, h⟩ := hzR8 j zs[j] (List.getElem?_eq_getElem h1)
          simp [e, idxIn_eq h, List.getElem?_eq_getElem h2]
      have hus : ∀ y ∈ us, ∃ r, y = .ref r ∧ H8' r = some (.tup [natV (Dn (idxIn H8' y)), natV (idxIn H8' y)]) := fun y hy => zin y (pus.mem_iff.mp hy)
      obtain ⟨o, ho⟩ : ∃ o, o = us.map (idxIn H8') := ⟨_, rfl⟩
      have po : o.Perm (List.range N.length) := by
        have := pus.map (idxIn H8')
        rw [ezs] at this
        rw [ho]
        exact this.trans po0
      have O : Order N Dn o := by
        refine ⟨po, by rw [ho]; exact sus, fun i k hik => ?_, far.zf (Dn 0) (hDn 0 G.pos)⟩
        have l := G.lt _ _ hik
        have l2 := kidsAt_lt hik
        rcases far.dn i (Dn i) (hDn i l2) k hik with ⟨b, hb, l⟩ | ⟨g, hg, _⟩
        · rw [hDn k (G.lt _ _ hik)] at hb
          have := Option.some.inj hb
          omega
        · cases hg
      have ol : o.length = N.length := O.len
      have ul : us.length = N.length := by rw [← ol, ho, List.length_map]
      have S9 := Same.trans' S58 (same_upd (o := .lst us) hsp)
      have hsp9 : upd H8' sp (.lst us) sp = some (.lst us) := upd_same
      have hus9 : ∀ (j : Nat) y, us[j]? = some y → ∃ r, y = .ref r ∧ upd H8' sp (.lst us) r = some (.tup [natV (Dn (o.getD j 0)), natV (o.getD j 0)]) := fun j y e => by
        obtain ⟨r, e1, h⟩ := hus y (List.mem_of_getElem? e)
        have g : o.getD j 0 = idxIn H8' y := by rw [ho, List.getD_eq_getElem?_getD, List.getElem?_map, e]; rfl
        rw [g]
        exact ⟨r, e1, (same_upd hsp) _ _ h⟩
      generalize upd H8' sp (.lst us) = H9 at S9 hsp9 hus9 ⊢
      have S09 := Same.trans' S5 S9
      -- order
      refine ⟨sp, rfl, ⟨_, sl_at hsp9⟩, fun D2 hD2 => ?_⟩
      refine lc_map (n := us.length) (fun _ => true) (fun j => natV (o.getD j 0)) hD2 (by omega) (fun j H10 hj hS => go_lst (hS _ _ hsp9) hj) (fun H10 hS => st_lst (hS _ _ hsp9) (Nat.le_refl _)) (fun j H10 z H11 Kt Kf hj hS hz hKt hKf => ?_) fun H10 S10 hl10 => ?_
      · obtain ⟨rfl, hz⟩ := hz
        have hz := hz _ (sl_at (hS _ _ hsp9))
        obtain ⟨r, e, h⟩ := hus9 j z hz
        subst e
        refine ⟨r, _, rfl, hS _ _ h, rfl, _, _, rfl, _, _, rfl, rfl, rfl, _, rfl, hKt rfl _ (Same.refl' _)⟩
      have eor : kept (fun _ => true) (fun j => natV (o.getD j 0)) us.length = o.map natV := by
        rw [kept_all]
        apply List.ext_getElem
        · simp [ol, ul]
        · intro j h1 h2
          simp at h2
          simp [List.getElem?_eq_getElem h2]
      rw [eor] at hl10
      have S010 := Same.trans' S09 S10
      have onat : ∀ i, i < N.length → ∃ x, o[i]? = some x ∧ (o.map natV)[i]? = some (natV x) ∧ x < N.length := fun i hi => by
        have e : o[i]? = some (o[i]'(by omega)) := List.getElem?_eq_getElem _
        exact ⟨_, e, by rw [List.getElem?_map, e]; rfl, O.mem.mp (List.mem_of_getElem? e)⟩
      -- anew
      refine ⟨_, rfl, D2, _, rfl, sl_at hl10, fun D3 hD3 => ?_⟩
      refine lc_rel (n := N.length) (fun j y H11 => ∃ r, y = .ref r ∧ H11 r = some (.tup [natV (o.getD j 0), natV j])) (fun j y H11 H12 tk ⟨r, e, h⟩ => ⟨r, e, tk _ _ h (.inl ⟨_, rfl⟩)⟩) hD3 (by omega) (fun j H11 hj S11 => by
        obtain ⟨x, _, e, _⟩ := onat j hj
        exact ⟨_, _, sl_at (S11 _ _ hl10), e⟩) (fun H11 S11 => ⟨_, sl_at (S11 _ _ hl10), by rw [nats_len]; omega⟩) (fun j H11 y H12 Kt Kf hj S11 hy hKt => ?_) fun H11 ys S11 hys hyl hyR => ?_
      · obtain ⟨t, y, rfl, ht, rfl, hx⟩ := hy
        have hx := hx _ (sl_at (S11 _ _ hl10))
        obtain ⟨x, eo, ex, hxn⟩ := onat j hj
        rw [ex] at hx
        cases hx
        rw [show o.getD j 0 = x by rw [List.getD_eq_getElem?_getD, eo]; rfl] at hKt
        refine ⟨t, _, rfl, upd_same, rfl, _, _, rfl, _, _, rfl, rfl, rfl, ?_⟩
        exact ⟨_, rfl, _, rfl, small (show 2 ≤ 10000 by decide), fun r hr2 => hKt _ _ (Same.trans' (same_upd ht) (same_upd hr2)) ⟨r, rfl, by rw [upd_same]; rfl⟩⟩
      have yps : ys = (ys.map adrV).map V.ref := by
        rw [List.map_map]
        conv => lhs; rw [show ys = ys.map id by simp]
        refine List.map_congr_left fun y hy => ?_
        obtain ⟨j, hj⟩ := List.mem_iff_getElem?.mp hy
        obtain ⟨r, e, _⟩ := hyR j y hj
        rw [e]
        rfl
      refine ⟨D3, ys.map adrV, (List.range N.length).map (fun j => (nk (o.getD j 0), natV j)), rfl, by rw [← yps]; exact hys, paired_by_get (by simp [hyl]) fun i a b e1 e2 => ?_, fun an han => ?_⟩
      · rw [List.getElem?_map] at e1 e2
        obtain ⟨y, e3, e4⟩ := Option.map_eq_some_iff.mp e1
        obtain ⟨j, e5, e6⟩ := Option.map_eq_some_iff.mp e2
        obtain ⟨r, e, h⟩ := hyR i y e3
        have ej : j = i := by
          have := (List.getElem?_eq_some_iff.mp e5)
          obtain ⟨_, e⟩ := this
          simp at e
          exact e.symm
        subst ej
        rw [← e6, ← e4, e]
        exact h
      have akd : ∀ x, x < N.length → valV (mergeK [] ((List.range N.length).map (fun j => (nk (o.getD j 0), natV j)))) (nk x) = some (natV (pos o x)) := fun x hx => by
        refine merge_val _ _ ?_ _ _ ?_
        · rw [List.map_map]
          have e : (List.range N.length).map ((fun kv : Key × V => kv.1) ∘ fun j => (nk (o.getD j 0), natV j)) = o.map nk := by
            apply List.ext_getElem
            · simp [ol]
            · intro j h1 h2
              simp at h1 h2
              simp [List.getElem?_eq_getElem h2]
          rw [e, List.nodup_iff_pairwise_ne, List.pairwise_map]
          exact (List.nodup_iff_pairwise_ne.mp O.nd).imp fun h z => h (nk_inj z)
        · refine List.mem_map.mpr ⟨pos o x, List.mem_range.mpr (O.pos_lt hx), ?_⟩
          rw [List.getD_eq_getElem?_getD, O.at_pos hx]
          rfl
      have S11' := Same.trans' S11 (same_upd (o := .dK (mergeK [] ((List.range N.length).map (fun j => (nk (o.getD j 0), natV j))))) han)
      have han11 : upd H11 an (.dK (mergeK [] ((List.range N.length).map (fun j => (nk (o.getD j 0), natV j))))) an = some (.dK (mergeK [] ((List.range N.length).map (fun j => (nk (o.getD j 0), natV j))))) := upd_same
      generalize mergeK [] ((List.range N.length).map (fun j => (nk (o.getD j 0), natV j))) = akv at akd S11' han11 ⊢
      generalize upd H11 an (.dK akv) = H12 at S11' han11 ⊢
      have S012 := Same.trans' S010 S11'
      have hop := S11' _ _ hl10
      -- found
      refine ⟨Nat.zero_le _, fun fq hfq => ?_⟩
      let Inv2 : Nat → Hp → Prop := fun i H4 => Same H12 H4 ∧ ∃ (ys : List V) (rows : Net), H4 fq = some (.lst ys) ∧ DTs H4 ys (rows.map encR) ∧ rows.length = i ∧ ∀ (j x : Nat) (r : Row), j < i → o[j]? = some x → N[x]? = some r → ∃ r', rows[j]? = some r' ∧ RowNum (pos o) r r'
      have addrow : ∀ (i x : Nat) (r r' : Row) (H4 H6 : Hp) (rr : Addr), Inv2 i H4 → i < N.length → o[i]? = some x → N[x]? = some r → Same H4 H6 → DT H6 (.ref rr) (encR r') → RowNum (pos o) r r' → ∀ ys, H4 fq = some (.lst ys) → Inv2 (i + 1) (upd H6 fq (.lst (ys ++ [.ref rr]))) := by
        intro i x r r' H4 H6 rr ⟨S4, ys, rows, hy, hrows, hrl, hR⟩ hi eo er S46 dy rn ys' hys'
        rw [hy] at hys'
        cases hys'
        have hfq6 := S46 _ _ hy
        have tk1 : TK H6 (upd H6 fq (.lst (ys ++ [.ref rr]))) := tk_set hfq6 no_lst
        refine ⟨fun b u e => ?_, ys ++ [.ref rr], rows ++ [r'], upd_same, ?_, by rw [List.length_append, hrl]; rfl, fun j x' r2 hj ej er2 => ?_⟩
        · rw [upd_ne (ne_of_none e hfq)]
          exact S46 _ _ (S4 _ _ e)
        · rw [List.map_append]
          exact DTs.snoc (hrows.up (TK.trans (Same.tk S46) tk1)) (dy.up tk1)
        · rcases Nat.lt_or_ge j i with h | h
          · obtain ⟨r3, e3, q3⟩ := hR j x' r2 h ej er2
            exact ⟨r3, by rw [List.getElem?_append_left (by rw [hrl]; exact h)]; exact e3, q3⟩
          · have hji : j = i := by omega
            subst hji
            rw [eo] at ej
            cases ej
            rw [er] at er2
            cases er2
            exact ⟨r', by rw [List.getElem?_append_right (by rw [hrl]; exact Nat.le_refl _), hrl]; simp, rn⟩
      have akg : ∀ (H4 : Hp), Same H12 H4 → ∀ x, x < N.length → DGet H4 an (natV x) (some (natV (pos o x))) := fun H4 S4 x hx => by
        have z := DGet.k (k := nk x) (S4 _ _ han11)
        rw [akd x hx] at z
        exact z
      refine ⟨_, rfl, D2, rfl, ⟨_, sl_at ((same_upd hfq) _ _ hop)⟩, ?_⟩
      refine for_gen (n := N.length) (fun i σ H4 => (∃ s3 s4 s8 s9 s10 s11, σ = [some (.ref d), some (.ref dp), some (.ref l), s3, s4, some (.ref D2), some (.ref an), some (.ref fq), s8, s9, s10, s11]) ∧ Inv2 i H4)
        ⟨⟨_, _, _, _, _, _, rfl⟩, same_upd hfq, [], [], upd_same, .nil, rfl, by intro j x r h; exact absurd h (Nat.not_lt_zero _)⟩ (fun i σ H4 hi ⟨_, S4, _⟩ => go_lst (S4 _ _ hop) (by rw [nats_len]; omega)) (fun σ H4 ⟨_, S4, _⟩ => st_lst (S4 _ _ hop) (by rw [nats_len]; omega)) (fun i σ H4a x H4 hi ⟨⟨s3, s4, s8, s9, s10, s11, es⟩, I4⟩ hy => ?_) fun σ H4 ⟨⟨s3, s4, s8, s9, s10, s11, es⟩, S4, ys, rows, hys, hrows, hrl, hR⟩ => ?_
      · subst es
        obtain ⟨rfl, hx⟩ := hy
        obtain ⟨S4, ys, rows, hys, hrows, hrl, hR2⟩ := id I4
        have hx := hx _ (sl_at (S4 _ _ hop))
        obtain ⟨x, eo, ex, hxn⟩ := onat i hi
        rw [ex] at hx
        cases hx
        obtain ⟨r, er⟩ := row_ex hxn
        have ylen : ys.length < sizeLine := by
          rw [hrows.length, List.length_map, hrl]
          exact smallT (by omega)
        obtain ⟨v, gv, rv⟩ := (hR.up (Same.trans' S012 S4)).at er
        refine ⟨_, rfl, _, rfl, d, _, rfl, gv, small (show 2 ≤ 10000 by decide), fun r0 hr0 => ?_⟩
        have S5 := same_upd (o := .tup [.str "leaf", v]) hr0
        have hr5 : upd H4 r0 (.tup [.str "leaf", v]) r0 = some (.tup [.str "leaf", v]) := upd_same
        obtain ⟨v5, gv5, rv5⟩ := (hR.up (Same.trans' (Same.trans' S012 S4) S5)).at er
        generalize upd H4 r0 (.tup [.str "leaf", v]) = H5 at S5 hr5 gv5 rv5 ⊢
        have hys5 := S5 _ _ hys
        cases r with
        | leaf z =>
          have hv : v = .str z := rv
          subst hv
          have hv : v5 = .str z := rv5
          subst hv
          refine ⟨_, rfl, _, rfl, d, _, rfl, gv5, _, _, .str z, k_ss, _, rfl, iteF ?_⟩
          refine ⟨_, rfl, ⟨fq, _, rfl, hys5⟩, _, rfl, fq, _, .ref r0, rfl, rfl, hys5, ylen, ⟨_, _, _, _, _, _, rfl⟩, ?_⟩
          exact addrow i x (.leaf z) (.leaf z) _ H5 r0 I4 hi eo er S5 (row_mk (r := .leaf z) hr5 (.str z)) rfl ys hys
        | _ =>
          obtain ⟨lr, rfl, _, hlr⟩ := rv5
          have hlr' : H5 lr = some (.lst ((kidsAt N x).map natV)) := by
            rw [kidsAt_some er]
            exact hlr
          have kle := G.kids_le x
          have S125 := Same.trans' S4 S5
          refine ⟨_, rfl, _, rfl, d, _, rfl, gv5, _, _, .lst hlr, k_ls, _, rfl, iteT ?_⟩
          refine ⟨_, rfl, _, rfl, d, _, rfl, gv5, lr, rfl, ⟨_, sl_at hlr'⟩, fun D6 hD6 => ?_⟩
          refine lc_map (n := (kidsAt N x).length) (fun _ => true) (fun j => natV (pos o ((kidsAt N x).getD j 0))) hD6 (by omega) (fun j H6 hj hS => go_lst (hS _ _ hlr') (by rw [nats_len]; exact hj)) (fun H6 hS => st_lst (hS _ _ hlr') (by rw [nats_len]; exact Nat.le_refl _)) (fun j H6 z H7 Kt Kf hj hS hz hKt hKf => ?_) fun H6 hS6 hl6 => ?_
          · obtain ⟨rfl, hz⟩ := hz
            have hz := hz _ (sl_at (hS _ _ hlr'))
            rw [nats_at hj] at hz
            cases hz
            have hlt := G.lt x _ (List.getElem_mem hj)
            have eg : (kidsAt N x).getD j 0 = (kidsAt N x)[j] := by rw [List.getD_eq_getElem?_getD, List.getElem?_eq_getElem hj]; rfl
            rw [eg] at hKt
            exact ⟨rfl, _, rfl, _, rfl, an, _, rfl, akg _ (Same.trans' S125 hS) _ hlt, hKt rfl _ (Same.refl' _)⟩
          have emap : kept (fun _ => true) (fun j => natV (pos o ((kidsAt N x).getD j 0))) (kidsAt N x).length = (((kidsAt N x).map (pos o)).map fun (k : Nat) => (k : Int)).map V.int := by
            rw [kept_all, List.map_map, List.map_map]
            apply List.ext_getElem
            · simp
            · intro j h1 h2
              simp at h1
              simp [List.getElem?_eq_getElem h1, natV]
          rw [emap] at hl6
          refine ⟨D6, _, rfl, hl6, fun ns p pm so np => ?_⟩
          obtain ⟨ks', kp, ens⟩ := nats_of_perm pm
          refine ⟨p, _, rfl, upd_same, fun l7 hl7 => ?_⟩
          have S7 : Same H5 (upd (upd H6 p (.lst (ns.map V.int))) l7 (.tup (ns.map V.int))) := Same.trans' hS6 (Same.trans' (same_upd np) (same_upd hl7))
          have h7 : upd (upd H6 p (.lst (ns.map V.int))) l7 (.tup (ns.map V.int)) l7 = some (.tup (ks'.map natV)) := by
            rw [upd_same, ens, List.map_map]
            rfl
          generalize upd (upd H6 p (.lst (ns.map V.int))) l7 (.tup (ns.map V.int)) = H7 at S7 h7 ⊢
          have krise : ks'.Pairwise (· < ·) := by
            rw [ens] at so
            have s1 := List.pairwise_map.mp so
            have nd : ks'.Nodup := kp.nodup_iff.mpr (by
              rw [List.nodup_iff_pairwise_ne, List.pairwise_map]
              rw [List.pairwise_iff_getElem]
              intro u v hu hv huv e
              have hkn := G.kids_nodup x
              have lu := G.lt x _ (List.getElem_mem hu)
              have lv := G.lt x _ (List.getElem_mem hv)
              have h1 := O.at_pos lu
              rw [e, O.at_pos lv] at h1
              have h1 : (kidsAt N x)[v] = (kidsAt N x)[u] := Option.some.inj h1
              have := (List.getElem_inj hkn).mp h1
              omega)
            exact (s1.and nd).imp fun {u v} ⟨q1, q2⟩ => by omega
          have klen : ks'.length = (kidsAt N x).length := by rw [kp.length_eq, List.length_map]
          refine ⟨_, rfl, l7, _, rfl, .inr h7, _, 1, rfl, rfl, _, rfl, ?_⟩
          first
          | (have two := (G.two x _ er).1
             rw [kidsAt_some er] at klen kp
             refine iteP (by rw [nats_len, klen]; simp only [Row.kids]; omega) ⟨_, rfl, small (show 2 ≤ 10000 by decide), fun rr hrr => ?_⟩
             have S8 := same_upd (o := .tup [.str "fork", .ref l7]) hrr
             refine ⟨_, rfl, ⟨fq, _, rfl, S8 _ _ (S7 _ _ hys5)⟩, _, rfl, fq, _, .ref rr, rfl, rfl, S8 _ _ (S7 _ _ hys5), ylen, ⟨_, _, _, _, _, _, rfl⟩, ?_⟩
             exact addrow i x (.fork _) (.fork ks') _ _ rr I4 hi eo er (Same.trans' S5 (Same.trans' S7 S8)) (row_mk (r := .fork ks') upd_same (.tup (S8 _ _ h7) (DTs.nats ks'))) ⟨kp, krise⟩ ys hys)
          | (rename_i jk _
             have ek1 : ks' = [pos o jk] := by
               rw [kidsAt_some er] at kp
               exact List.perm_singleton.mp kp
             subst ek1
             refine iteN (by simp) ⟨_, rfl, l7, _, 0, _, rfl, rfl, h7, atI_nat (j := 0) rfl, small (show 2 ≤ 10000 by decide), fun rr hrr => ?_⟩
             have S8 := same_upd (o := .tup [.str "join", natV (pos o jk)]) hrr
             refine ⟨_, rfl, ⟨fq, _, rfl, S8 _ _ (S7 _ _ hys5)⟩, _, rfl, fq, _, .ref rr, rfl, rfl, S8 _ _ (S7 _ _ hys5), ylen, ⟨_, _, _, _, _, _, rfl⟩, ?_⟩
             exact addrow i x (.join jk) (.join (pos o jk)) _ _ rr I4 hi eo er (Same.trans' S5 (Same.trans' S7 S8)) (row_mk (r := .join (pos o jk)) upd_same (.int _)) rfl ys hys)
      · subst es
        have A : Anew N rows o := ⟨hrl, fun i x r eo er => hR i x r (by rw [← ol]; exact (List.getElem?_eq_some_iff.mp eo).1) eo er⟩
        refine ⟨_, rfl, fq, ys, rfl, hys, fun p np => ?_⟩
        have S5 := same_upd (o := .tup ys) np
        exact q _ p rows (Same.trans' S012 (Same.trans' S4 S5)) (.tup upd_same (hrows.up (Same.tk S5))) (A.good O G) hrl
  · obtain ⟨x, fr⟩ := e0
    rw [List.concat_eq_append] at e
    subst e
    have hne : (L0 ++ [(x, fr)]).isEmpty = false := by cases L0 <;> rfl
    rw [hne]
    refine iteT ⟨_, fun σ' H' h => h, ?_⟩
    have hx : x < N.length := far.lt (x, fr) (by simp)
    have hL0 : L0.length ≤ 49 * ρ x := hpos L0.length (x, fr) (by simp)
    have hrx := hρn x
    rw [List.map_append] at hxs5
    obtain ⟨xs0, v, rfl, hxs0, hv⟩ := dts_snoc hxs5
    obtain ⟨t, rfl, ht⟩ := encE_at hv
    refine ⟨_, rfl, ⟨l, _, rfl, hl5⟩, l, _, .ref t, rfl, rfl, hl5, by simp, ?_⟩
    rw [List.dropLast_concat]
    have tk6 : TK H5 (upd H5 l (.lst xs0)) := tk_set hl5 no_lst
    have S6 : Same H (upd H5 l (.lst xs0)) := fun b o e => by
      rw [upd_ne (ne_of_none e l0)]
      exact S5 _ _ e
    have hl6 : upd H5 l (.lst xs0) l = some (.lst xs0) := upd_same
    have ht6 := tk6 _ _ ht (.inl ⟨_, rfl⟩)
    have hxs6 := hxs0.up tk6
    have dn6 := dn5.frame (H' := upd H5 l (.lst xs0)) fun o e => by rw [upd_ne ndl]; exact e
    generalize upd H5 l (.lst xs0) = H6 at S6 hl6 ht6 hxs6 dn6 ⊢
    refine ⟨t, _, rfl, ht6, rfl, _, _, rfl, _, _, rfl, rfl, ?_⟩
    obtain ⟨c, hc1, hc2, hc3, jj, hj1, hj2⟩ : ∃ c : Nat, fr ≤ c ∧ (∀ b, F x = some b → b ≤ c) ∧ (c = fr ∨ F x = some c) ∧ ∃ jj : Int, ((F x).map natV).getD (.int 0) = .int jj ∧ (if jj > (fr : Int) then jj else (fr : Int)) = (c : Int) := by
      cases e : F x with
      | none => exact ⟨fr, Nat.le_refl _, (fun b h => by cases h), .inl rfl, 0, rfl, if_neg (by omega)⟩
      | some b =>
        refine ⟨max fr b, by omega, (fun b' h => by cases h; omega), ?_, b, rfl, ?_⟩
        · rcases Nat.le_total b fr with h | h
          · exact .inl (by omega)
          · exact .inr (by congr 1; omega)
        · split <;> omega
    obtain ⟨kvs6, f1, _⟩ := id dn6
    refine ⟨_, rfl, _, rfl, dp, rfl, .inl ⟨_, .inl f1⟩, _, rfl, _, DGet.n dn6 x, ?_⟩
    rw [hj1]
    refine ⟨(fr : Int), jj, rfl, ?_⟩
    rw [hj2]
    obtain ⟨H7, pd, bd, dn7⟩ := dn6.put hx (by omega) c
    refine ⟨_, rfl, _, rfl, dp, H7, rfl, pd, ?_⟩
    have S7 : Same H H7 := fun b o e => bd _ _ (ne_of_none e hdp) (S6 _ _ e)
    have hl7 := bd _ _ (Ne.symm ndl) hl6
    have tk7 : TK H6 H7 := But.tkD bd f1
    have hxs7 := hxs6.up tk7
    have far7 := far.step G hc1 hc2 hc3
    have wtx : wtL N.length ρ (L0 ++ [(x, fr)]) = wtL N.length ρ L0 + 50 ^ (N.length - ρ x) := by
      rw [wtL_app]
      rfl
    have kle := G.kids_le x
    have wk := wtL_less (f := fr + 1) (ks := kidsAt N x) (fun k hk => ⟨hρ x k hk, hρn k⟩) kle
    have pos7 : ∀ i e, (L0 ++ (kidsAt N x).map fun k => (k, fr + 1))[i]? = some e → i ≤ 49 * ρ e.1 := fun i e he => by
      rw [List.getElem?_append] at he
      split at he
      · rename_i hlt
        exact hpos i e (by rw [List.getElem?_append_left hlt]; exact he)
      · rename_i hge
        have hb := (List.getElem?_eq_some_iff.mp he).1
        rw [List.length_map] at hb
        obtain ⟨k, hk, rfl⟩ := List.mem_map.mp (List.mem_of_getElem? he)
        have := hρ x k hk
        show i ≤ 49 * ρ k
        omega
    obtain ⟨r, er⟩ := row_ex hx
    obtain ⟨v, gv, rv⟩ := (hR.up S7).at er
    cases r with
    | leaf z =>
      have hv : v = .str z := rv
      subst hv
      refine ⟨_, rfl, _, rfl, d, _, rfl, gv, _, _, .str z, k_ss, _, rfl, iteF ?_⟩
      rw [kidsAt_some er] at far7 pos7
      refine ⟨_, ?_, ⟨_, _, _, _, _, _, _, _, _, rfl⟩, S7, L0, xs0, _, hl7, hxs7, dn7, by simpa [Row.kids] using far7, (fun i e he => pos7 i e (by simpa [Row.kids] using he)), rfl⟩
      rw [wtx]
      have : 0 < 50 ^ (N.length - ρ x) := Nat.pow_pos (by decide)
      omega
    | _ =>
      obtain ⟨lr, rfl, _, hlr⟩ := rv
      have hlr' : H7 lr = some (.lst ((kidsAt N x).map natV)) := by
        rw [kidsAt_some er]
        exact hlr
      refine ⟨_, rfl, _, rfl, d, _, rfl, gv, _, _, .lst hlr, k_ls, _, rfl, iteT ?_⟩
      refine ⟨_, rfl, ⟨l, _, rfl, hl7⟩, _, rfl, _, rfl, d, _, rfl, gv, lr, rfl, ⟨_, sl_at hlr'⟩, fun D2 hD2 => ?_⟩
      refine lc_rel (n := (kidsAt N x).length) (fun j y H8 => ∃ r, y = .ref r ∧ H8 r = some (.tup [natV ((kidsAt N x).getD j 0), natV (fr + 1)])) (fun j y H8 H9 tk ⟨r, e, h⟩ => ⟨r, e, tk _ _ h (.inl ⟨_, rfl⟩)⟩) hD2 (by omega) (fun j H8 hj S8 => go_lst (S8 _ _ hlr') (by rw [nats_len]; exact hj)) (fun H8 S8 => st_lst (S8 _ _ hlr') (by rw [nats_len]; exact Nat.le_refl _)) (fun j H8 y H9 Kt Kf hj S8 hy hKt => ?_) fun H8 zs S8 hzs hzl hzR => ?_
      · obtain ⟨rfl, hy⟩ := hy
        have hy := hy _ (sl_at (S8 _ _ hlr'))
        rw [nats_at hj] at hy
        cases hy
        refine ⟨rfl, _, rfl, _, rfl, _, _, rfl, rfl, small (show 2 ≤ 10000 by decide), fun r hr2 => hKt _ _ (same_upd hr2) ⟨r, rfl, ?_⟩⟩
        rw [upd_same, List.getD_eq_getElem?_getD, List.getElem?_eq_getElem hj]
        rfl
      · have hl8 := S8 _ _ hl7
        have xl : xs0.length = L0.length := by rw [hxs0.length, List.length_map]
        refine ⟨l, D2, xs0, zs, rfl, rfl, hl8, hzs, small (by omega), _, ?_, ⟨_, _, _, _, _, _, _, _, _, rfl⟩, fun b o e => ?_, L0 ++ (kidsAt N x).map (fun k => (k, fr + 1)), xs0 ++ zs, _, upd_same, ?_, dn7.frame fun o e => ?_, far7, pos7, rfl⟩
        · rw [wtx, wtL_app]
          omega
        · rw [upd_ne (ne_of_none e l0)]
          exact S8 _ _ (S7 _ _ e)
        · have tk : TK H8 (upd H8 l (.lst (xs0 ++ zs))) := tk_set hl8 no_lst
          rw [List.map_append]
          refine app_dts (hxs7.up (TK.trans (Same.tk S8) tk)) (DTs.of_get (by simp [hzl]) fun j v' dd e1 e2 => ?_)
          obtain ⟨r, rfl, h⟩ := hzR j v' e1
          rw [List.getElem?_map, List.getElem?_map] at e2
          obtain ⟨e', e3, e4⟩ := Option.map_eq_some_iff.mp e2
          obtain ⟨k, e5, e6⟩ := Option.map_eq_some_iff.mp e3
          rw [← e4, ← e6]
          refine encE_mk (tk _ _ ?_ (.inl ⟨_, rfl⟩))
          rw [h, List.getD_eq_getElem?_getD, e5]
          rfl
        · rw [upd_ne ndl]
          exact S8 _ _ e
end
end JT
/-! A9: nets drawn from a tree, and nets put together by hand. -/
namespace JT
open PySem PySem.Spec PyProof.Rows L2 PySem.W
abbrev s__law_net : Stmt := topS 67
abbrev n__law_net : List Str := ["_law_pen_here", "_law_tree_here", "_law_many", "_law_rows_here", "_law_k"]
theorem sc__law_net : FnScope n__law_net ["_law_pen_here", "_law_tree_here", "_law_many"] (defScope s__law_net) :=
  ⟨rfl, rfl, rfl, by decide +kernel, rfl, by decide +kernel, by decide +kernel⟩
abbrev s__law_odd_net : Stmt := topS 72
abbrev n__law_odd_net : List Str := ["_law_pen_here", "_law_one", "_law_two", "_law_three", "_law_four", "_law_five", "_law_six", "_law_seven"]
theorem sc__law_odd_net : FnScope n__law_odd_net ["_law_pen_here"] (defScope s__law_odd_net) :=
  ⟨rfl, rfl, rfl, by decide +kernel, rfl, by decide +kernel, by decide +kernel⟩
section
variable {P : Program} {w : World} {K : PySem.W.Frag} {mg : Str → Option Value} {base : Heap}
mutual
theorem Bin.height : ∀ (t : Tree), Bin t → hT t + 1 ≤ (namesT t).length
  | .leaf s, _ => by simp [hT, namesT]
  | .node [], h => absurd h.1 (by simp)
  | .node [t], h => absurd h.1 (by simp)
  | .node (t :: u :: ts), h => by
    have a := Bin.height t h.2.1
    have b := names_pos t (Bin.full t h.2.1)
    have z := Bins.height (u :: ts) h.2.2
    have c := names_pos u (Bin.full u h.2.2.1)
    have d : (namesTs (u :: ts)).length = (namesT u).length + (namesTs ts).length := by simp [namesTs]
    simp only [hT, hTs, namesT, namesTs, List.length_append] at *
    omega
theorem Bins.height : ∀ (t : List Tree), Bins t → hTs t ≤ (namesTs t).length - 1
  | [], _ => Nat.zero_le _
  | t :: ts, h => by
    have a := Bin.height t h.1
    have b := Bins.height ts h.2
    simp only [hTs, namesTs, List.length_append]
    omega
end
theorem RowsD.ofNum {H : Hp} {d : Addr} {N : Net} {f : Nat → V} {X : Addr → Prop} (hd : H d = some (.dK (numD f N.length))) (h : ∀ i r, N[i]? = some r → RowVal X H (f i) r) : RowsD H d N := by
  refine ⟨_, hd, numD_nodup f _, fun k => ?_, fun i r e => ?_⟩
  · rw [numD_keys, List.mem_map]
    exact ⟨fun ⟨i, hi, e⟩ => ⟨i, List.mem_range.mp hi, e.symm⟩, fun ⟨i, hi, e⟩ => ⟨i, List.mem_range.mpr hi, e.symm⟩⟩
  · exact ⟨_, numD_val f (List.getElem?_eq_some_iff.mp e).1, (h i r e).mono fun l xs _ e => ⟨trivial, e⟩⟩
theorem joins_rowsT (t : Tree) : JT.joins (rowsT 0 t) = [] := by
  unfold JT.joins
  rw [List.filter_eq_nil_iff]
  intro i hi
  obtain ⟨r, er⟩ := row_ex (N := rowsT 0 t) (List.mem_range.mp hi)
  rw [er]
  have := noJoinT 0 t _ (List.mem_of_getElem? er)
  simp [this]
def spLNet : Sp := fun vs H Q _ => ∃ (p pq : Addr) (v : V) (t : Tree) (c m : Nat), vs = [.ref p, v, natV m] ∧ PenAt H p pq c ∧ c + 200 ≤ 100000 ∧ DT H v (encT t) ∧ Bin t ∧ (namesT t).Nodup ∧ (namesT t).length ≤ 10 ∧ (∀ n ∈ namesT t, NameOk n) ∧ m ≤ 6 ∧
  ∀ H' q N', But p H H' → PenAt H' p pq (c + 20) → DT H' (.ref q) (encN N') → Good N' → N'.length ≤ 39 → Q (.ref q) H'
theorem c__law_net (T : Top mg) (D : Def K mg "_law_net" "_law_net" s__law_net) (C__law_rows : ∀ h, Cal P w K mg base (h + 1) "_law_rows" (spLRows h)) (C__law_joined : Cal P w K mg base 2 "_law_joined" spLJoined) (C__law_numbered : Cal P w K mg base 1 "_law_numbered" spLNumb) : Cal P w K mg base 13 "_law_net" spLNet := by
  have C__law_rows := C__law_rows 11
  have C__law_joined := C__law_joined.mono (show 2 ≤ 12 by decide)
  have C__law_numbered := C__law_numbered.mono (show 1 ≤ 12 by decide)
  refine D.cal sc__law_net (fun _ _ _ _ _ _ us hl => match us, hl with | [_, _, _], _ => rfl) (fun vs H Q E h => ?_) fun f cdv A outer s H vs Q E hr hsp => ?_
  · obtain ⟨_, _, _, _, _, _, rfl, _⟩ := h; rfl
  have hu := hu_of hr
  refine ⟨_, (pss_cons (ps_set (i := 3) sc__law_net.nd rfl (Or.inl rfl) pe_dnewK)
    (pss_cons (ps_expr (pe_f C__law_rows hr rfl (pa_cons (pv 1) (pa_cons (pv 3) pa_nil))))
    (pss_cons (ps_for PassesOwn.never rfl (pi_range1 rfl T.range (pa_cons (pv 2) pa_nil)) (pg_name (i := 4) sc__law_net.nd rfl (Or.inl rfl))
    (pss_one (ps_expr (pe_f C__law_joined hr rfl (pa_cons (pv 0) (pa_cons (pv 3) pa_nil))))))
    (pss_one (ps_ret (pe_f C__law_numbered hr rfl (pa_cons (pv 3) pa_nil))))))), ?_⟩
  obtain ⟨p, pq, v, t, c, m, rfl, hp, hc, hd, hb, nd, few, hn, hm, q⟩ := hsp
  have hh := Bin.height t hb
  have hz := szT_le t hb
  have G0 := (goodT hb nd few hn).toLoose
  refine fun d hdn => ?_
  have ndp := hp.new hdn
  have S1 := same_upd (o := .dK []) hdn
  have hd1 : upd H d (.dK []) d = some (.dK (numD (fun _ => .non) 0)) := upd_same
  generalize upd H d (.dK []) = H1 at S1 hd1 ⊢
  refine ⟨_, rfl, _, rfl, v, d, t, fun _ => .non, 0, rfl, hd.up (Same.tk S1), by omega, hd1, by omega, fun H2 f' B2 hd2 _ hr2 => ?_⟩
  have S2 : Same H H2 := fun b o e => B2 _ _ (ne_of_none e hdn) (S1 _ _ e)
  have hR2 : RowsD H2 d (rowsT 0 t) := RowsD.ofNum (f := f') (by rw [rowsT_len, ← Nat.zero_add (szT t)]; exact hd2) fun i r e => by
    have z := hr2 i r e
    rw [Nat.zero_add] at z
    exact z
  refine ⟨_, rfl, _, rfl, by omega, by omega, ?_⟩
  rw [show ((m : Nat) : Int).toNat = m from rfl]
  refine for_gen (n := m) (fun i σ H3 => (∃ s4, σ = [some (.ref p), some v, some (natV m), some (.ref d), s4]) ∧ But p H H3 ∧ PenAt H3 p pq (c + 2 * i) ∧ ∃ N, RowsD H3 d N ∧ Loose N ∧ N.length ≤ 19 + 2 * i ∧ (JT.joins N).length ≤ i)
    ⟨⟨_, rfl⟩, But.of S2, hp.up S2, rowsT 0 t, hR2, G0, by rw [rowsT_len]; omega, by rw [joins_rowsT]; exact Nat.le_refl _⟩ (fun i σ H3 hi _ => hi) (fun σ H3 _ => Nat.le_refl _) (fun i σ H3a x H3 hi ⟨⟨s4, es⟩, B3, p3, N, hR3, G3, l3, j3⟩ hy => ?_) fun σ H3 ⟨⟨s4, es⟩, B3, p3, N, hR3, G3, l3, j3⟩ => ?_
  · subst es
    obtain ⟨rfl, rfl⟩ := hy
    refine ⟨_, rfl, _, rfl, p, pq, d, c + 2 * i, N, rfl, p3, by omega, ndp.1, hR3, G3, by omega, by omega, fun H4 N' B4 p4 hR4 G4 l4 j4 => ?_⟩
    exact ⟨⟨_, rfl⟩, fun b o hb e => B4 _ _ hb (ne_of_none e hdn) (B3 _ _ hb e), p4, N', hR4, G4, by omega, by omega⟩
  · subst es
    refine ⟨_, rfl, d, N, rfl, hR3, G3, fun H4 p4 N' S4 d4 G4 l4 => ?_⟩
    exact q _ p4 N' (But.trans' B3 (But.of S4)) ((p3.up S4).more (by omega)) d4 G4 (by omega)
/-! ### literals -/
def LitOk (t : TE) (d : PyData) : Prop := ∀ σ H (Q : VK), (∀ v H', Same H H' → DT H' v d → Q v H') → t σ H Q
def LitsOk (t : TA) (ds : List PyData) : Prop := ∀ σ H (Q : List V → Hp → Prop), (∀ vs H', Same H H' → DTs H' vs ds → Q vs H') → t σ H Q
theorem lit_int (i : Int) : LitOk (tC (.int i)) (.int i) := fun σ H Q k => k _ _ (Same.refl' _) (.int i)
theorem lit_str (z : Str) : LitOk (tC (.str z)) (.str z) := fun σ H Q k => k _ _ (Same.refl' _) (.str z)
theorem lits_nil : LitsOk tNil [] := fun σ H Q k => k _ _ (Same.refl' _) .nil
theorem lits_cons {t : TE} {ta : TA} {d : PyData} {ds : List PyData} (h : LitOk t d) (hs : LitsOk ta ds) : LitsOk (tCons t ta) (d :: ds) := fun σ H Q k => h σ H _ fun v H1 S1 d1 => hs σ H1 _ fun vs H2 S2 d2 => k _ _ (Same.trans' S1 S2) (.cons (d1.up (Same.tk S2)) d2)
theorem lit_tup {ta : TA} {ds : List PyData} (hs : LitsOk ta ds) (hl : ds.length ≤ 10000) : LitOk (tTup ta) (.tuple ds) := fun σ H Q k => hs σ H _ fun vs H1 S1 d1 => ⟨small (by rw [d1.length]; exact hl), fun p hp => k _ _ (Same.trans' S1 (same_upd hp)) (.tup upd_same (d1.up (tk_new hp)))⟩
theorem seq_lit {t : TE} {d : PyData} {i : Nat} {b : TS} {D : Ends} {σ : L2.St} {H : Hp} (h : LitOk t d) (k : ∀ v H', Same H H' → DT H' v d → b D (σ.set i (some v)) H') : tSeq (tAsg t (gName i)) b D σ H := h _ _ _ k
theorem seq_cat {t : TE} {ds es : List PyData} {i : Nat} {b : TS} {D : Ends} {σ : L2.St} {H : Hp} {v : V} (hv : σ[i]? = some (some v)) (d1 : DT H v (.tuple ds)) (h : LitOk t (.tuple es)) (hl : ds.length + es.length ≤ 10000) (k : ∀ v' H', Same H H' → DT H' v' (.tuple (ds ++ es)) → b D (σ.set i (some v')) H') : tSeq (tAsg (tOp rCatt (tVar i) t) (gName i)) b D σ H := by
  refine ⟨v, hv, h _ _ _ fun u H1 S1 d2 => ?_⟩
  obtain ⟨a, xs, rfl, ha, hs⟩ := DT.of_tup (d1.up (Same.tk S1))
  obtain ⟨a2, ys, rfl, ha2, hs2⟩ := DT.of_tup d2
  exact ⟨a, a2, xs, ys, rfl, rfl, ha, ha2, small (by rw [hs.length, hs2.length]; exact hl), fun p H' S' hp => k _ _ (Same.trans' S1 S') (.tup hp (app_dts (hs.up (Same.tk S')) (hs2.up (Same.tk S'))))⟩
def odd1 : Net := [.fork [1, 2], .fork [2, 3], .join 3, .join 4, .leaf "a"]
def odd2 : Net := [.fork [1, 2, 3], .fork [4, 5], .fork [4, 6], .fork [5, 6], .join 7, .join 8, .join 9, .leaf "a", .leaf "b", .leaf "c"]
def odd3 : Net := [.fork [1, 2], .fork [3, 4], .fork [3, 4], .join 5, .join 6, .leaf "a", .leaf "b"]
def odd4 : Net := [.fork [1, 4], .fork [2, 3], .fork [3, 5], .join 7, .fork [6, 8], .leaf "b", .fork [8, 9], .leaf "a", .join 10, .leaf "d", .leaf "c"]
def odd5 : Net := [.fork [1, 2, 3], .fork [2, 5], .join 3, .join 4, .leaf "b", .leaf "a"]
def odd6 : Net := [.fork [1, 2, 3, 4], .fork [3, 5], .fork [4, 6], .join 7, .join 8, .leaf "a", .leaf "b", .leaf "c", .leaf "d"]
def odd7 : Net := [.fork [1, 4], .fork [2, 3, 4], .fork [3, 5], .join 6, .join 7, .leaf "a", .leaf "b", .leaf "c"]
def odd8 : Net := [.leaf "zz"]
def nameB (s : Str) : Bool := decide (1 ≤ s.length) && decide (s.length ≤ 8) && s.cps.toList.all fun c => LET.cps.toList.contains c
def goodB (N : Net) : Bool :=
  decide (1 ≤ N.length) && decide (N.length ≤ 39) && ((List.range N.length).all fun i => (kidsAt N i).all fun k => decide (i < k) && decide (k < N.length)) &&
  (N.all fun r => match r with | .fork ks => decide (2 ≤ ks.length) && decide (ks.Pairwise (· < ·)) | _ => true) &&
  ((List.range N.length).all fun k => decide ((ways N k).length = dueWays N k)) &&
  (match N[0]? with | some r => !r.isJoin | none => true) && (JT.names N).all nameB && decide (JT.names N).Nodup && decide ((JT.names N).length ≤ 10) && decide ((JT.joins N).length ≤ 6)
theorem goodB_ok {N : Net} (h : goodB N = true) : Good N ∧ N.length ≤ 39 := by
  unfold goodB at h
  simp only [Bool.and_eq_true, decide_eq_true_eq, List.all_eq_true, List.mem_range] at h
  obtain ⟨⟨⟨⟨⟨⟨⟨⟨⟨h1, h2⟩, h3⟩, h4⟩, h5⟩, h6⟩, h7⟩, h8⟩, h9⟩, h10⟩ := h
  have hk : ∀ i k, k ∈ kidsAt N i → i < k ∧ k < N.length := fun i k hk => h3 i (kidsAt_lt hk) k hk
  have hf : ∀ (i : Nat) (ks : List Nat), N[i]? = some (Row.fork ks) → 2 ≤ ks.length ∧ ks.Pairwise (· < ·) := fun i ks e => by
    have z := h4 _ (List.mem_of_getElem? e)
    simpa using z
  refine ⟨{ pos := h1, len := by omega, lt := fun i k h => (hk i k h).2, two := fun i ks e => ⟨(hf i ks e).1, (hf i ks e).2.imp fun h => Nat.ne_of_lt h⟩, led := h5, root := fun k e => ?_, nameOk := fun s hs => ?_, nd := h8, few := h9, jfew := h10, rank := ⟨id, fun i k h => (hk i k h).1⟩, down := fun i k h => (hk i k h).1, rise := fun i ks e => (hf i ks e).2 }, h2⟩
  · rw [e] at h6
    cases h6
  · have z := h7 s hs
    unfold nameB at z
    simp only [Bool.and_eq_true, decide_eq_true_eq, List.all_eq_true, List.contains_iff_mem] at z
    exact ⟨z.1.1, z.1.2, z.2⟩
def spLOdd : Sp := fun vs H Q _ => ∃ (p pq : Addr) (c : Nat), vs = [.ref p] ∧ PenAt H p pq c ∧ c + 10 ≤ 100000 ∧ ∀ H' v N', But p H H' → PenAt H' p pq (c + 1) → DT H' v (encN N') → Good N' → N'.length ≤ 39 → Q v H'
theorem c__law_odd_net (T : Top mg) (D : Def K mg "_law_odd_net" "_law_odd_net" s__law_odd_net) (C__law_draw : Cal P w K mg base 1 "_law_draw" spDraw) : Cal P w K mg base 2 "_law_odd_net" spLOdd := by
  refine D.cal sc__law_odd_net (fun _ _ _ _ _ _ us hl => match us, hl with | [_], _ => rfl) (fun vs H Q E h => ?_) fun f cdv A outer s H vs Q E hr hsp => ?_
  · obtain ⟨_, _, _, rfl, _⟩ := h; rfl
  have hu := hu_of hr
  refine ⟨_, (pss_cons (ps_set (i := 1) sc__law_odd_net.nd rfl (Or.inl rfl) (pe_tup (pa_cons (pe_tup (pa_cons pe_str (pa_cons (pe_tup (pa_cons pe_int (pa_cons pe_int pa_nil))) pa_nil))) (pa_cons (pe_tup (pa_cons pe_str (pa_cons (pe_tup (pa_cons pe_int (pa_cons pe_int pa_nil))) pa_nil))) (pa_cons (pe_tup (pa_cons pe_str (pa_cons pe_int pa_nil))) (pa_cons (pe_tup (pa_cons pe_str (pa_cons pe_int pa_nil))) (pa_cons (pe_tup (pa_cons pe_str (pa_cons pe_str pa_nil))) pa_nil)))))))
    (pss_cons (ps_set (i := 2) sc__law_odd_net.nd rfl (Or.inl rfl) (pe_tup (pa_cons (pe_tup (pa_cons pe_str (pa_cons (pe_tup (pa_cons pe_int (pa_cons pe_int (pa_cons pe_int pa_nil)))) pa_nil))) (pa_cons (pe_tup (pa_cons pe_str (pa_cons (pe_tup (pa_cons pe_int (pa_cons pe_int pa_nil))) pa_nil))) (pa_cons (pe_tup (pa_cons pe_str (pa_cons (pe_tup (pa_cons pe_int (pa_cons pe_int pa_nil))) pa_nil))) (pa_cons (pe_tup (pa_cons pe_str (pa_cons (pe_tup (pa_cons pe_int (pa_cons pe_int pa_nil))) pa_nil))) pa_nil))))))
    (pss_cons (ps_set (i := 2) sc__law_odd_net.nd rfl (Or.inl rfl) (pe_op catt (pv 2) (pe_tup (pa_cons (pe_tup (pa_cons pe_str (pa_cons pe_int pa_nil))) (pa_cons (pe_tup (pa_cons pe_str (pa_cons pe_int pa_nil))) (pa_cons (pe_tup (pa_cons pe_str (pa_cons pe_int pa_nil))) (pa_cons (pe_tup (pa_cons pe_str (pa_cons pe_str pa_nil))) (pa_cons (pe_tup (pa_cons pe_str (pa_cons pe_str pa_nil))) (pa_cons (pe_tup (pa_cons pe_str (pa_cons pe_str pa_nil))) pa_nil)))))))))
    (pss_cons (ps_set (i := 3) sc__law_odd_net.nd rfl (Or.inl rfl) (pe_tup (pa_cons (pe_tup (pa_cons pe_str (pa_cons (pe_tup (pa_cons pe_int (pa_cons pe_int pa_nil))) pa_nil))) (pa_cons (pe_tup (pa_cons pe_str (pa_cons (pe_tup (pa_cons pe_int (pa_cons pe_int pa_nil))) pa_nil))) (pa_cons (pe_tup (pa_cons pe_str (pa_cons (pe_tup (pa_cons pe_int (pa_cons pe_int pa_nil))) pa_nil))) (pa_cons (pe_tup (pa_cons pe_str (pa_cons pe_int pa_nil))) (pa_cons (pe_tup (pa_cons pe_str (pa_cons pe_int pa_nil))) pa_nil)))))))
    (pss_cons (ps_set (i := 3) sc__law_odd_net.nd rfl (Or.inl rfl) (pe_op catt (pv 3) (pe_tup (pa_cons (pe_tup (pa_cons pe_str (pa_cons pe_str pa_nil))) (pa_cons (pe_tup (pa_cons pe_str (pa_cons pe_str pa_nil))) pa_nil)))))
    (pss_cons (ps_set (i := 4) sc__law_odd_net.nd rfl (Or.inl rfl) (pe_tup (pa_cons (pe_tup (pa_cons pe_str (pa_cons (pe_tup (pa_cons pe_int (pa_cons pe_int pa_nil))) pa_nil))) (pa_cons (pe_tup (pa_cons pe_str (pa_cons (pe_tup (pa_cons pe_int (pa_cons pe_int pa_nil))) pa_nil))) (pa_cons (pe_tup (pa_cons pe_str (pa_cons (pe_tup (pa_cons pe_int (pa_cons pe_int pa_nil))) pa_nil))) (pa_cons (pe_tup (pa_cons pe_str (pa_cons pe_int pa_nil))) (pa_cons (pe_tup (pa_cons pe_str (pa_cons (pe_tup (pa_cons pe_int (pa_cons pe_int pa_nil))) pa_nil))) pa_nil)))))))
    (pss_cons (ps_set (i := 4) sc__law_odd_net.nd rfl (Or.inl rfl) (pe_op catt (pv 4) (pe_tup (pa_cons (pe_tup (pa_cons pe_str (pa_cons pe_str pa_nil))) (pa_cons (pe_tup (pa_cons pe_str (pa_cons (pe_tup (pa_cons pe_int (pa_cons pe_int pa_nil))) pa_nil))) (pa_cons (pe_tup (pa_cons pe_str (pa_cons pe_str pa_nil))) (pa_cons (pe_tup (pa_cons pe_str (pa_cons pe_int pa_nil))) (pa_cons (pe_tup (pa_cons pe_str (pa_cons pe_str pa_nil))) (pa_cons (pe_tup (pa_cons pe_str (pa_cons pe_str pa_nil))) pa_nil)))))))))
    (pss_cons (ps_set (i := 5) sc__law_odd_net.nd rfl (Or.inl rfl) (pe_tup (pa_cons (pe_tup (pa_cons pe_str (pa_cons (pe_tup (pa_cons pe_int (pa_cons pe_int (pa_cons pe_int pa_nil)))) pa_nil))) (pa_cons (pe_tup (pa_cons pe_str (pa_cons (pe_tup (pa_cons pe_int (pa_cons pe_int pa_nil))) pa_nil))) (pa_cons (pe_tup (pa_cons pe_str (pa_cons pe_int pa_nil))) (pa_cons (pe_tup (pa_cons pe_str (pa_cons pe_int pa_nil))) (pa_cons (pe_tup (pa_cons pe_str (pa_cons pe_str pa_nil))) (pa_cons (pe_tup (pa_cons pe_str (pa_cons pe_str pa_nil))) pa_nil))))))))
    (pss_cons (ps_set (i := 6) sc__law_odd_net.nd rfl (Or.inl rfl) (pe_tup (pa_cons (pe_tup (pa_cons pe_str (pa_cons (pe_tup (pa_cons pe_int (pa_cons pe_int (pa_cons pe_int (pa_cons pe_int pa_nil))))) pa_nil))) (pa_cons (pe_tup (pa_cons pe_str (pa_cons (pe_tup (pa_cons pe_int (pa_cons pe_int pa_nil))) pa_nil))) (pa_cons (pe_tup (pa_cons pe_str (pa_cons (pe_tup (pa_cons pe_int (pa_cons pe_int pa_nil))) pa_nil))) (pa_cons (pe_tup (pa_cons pe_str (pa_cons pe_int pa_nil))) (pa_cons (pe_tup (pa_cons pe_str (pa_cons pe_int pa_nil))) pa_nil)))))))
    (pss_cons (ps_set (i := 6) sc__law_odd_net.nd rfl (Or.inl rfl) (pe_op catt (pv 6) (pe_tup (pa_cons (pe_tup (pa_cons pe_str (pa_cons pe_str pa_nil))) (pa_cons (pe_tup (pa_cons pe_str (pa_cons pe_str pa_nil))) (pa_cons (pe_tup (pa_cons pe_str (pa_cons pe_str pa_nil))) (pa_cons (pe_tup (pa_cons pe_str (pa_cons pe_str pa_nil))) pa_nil)))))))
    (pss_cons (ps_set (i := 7) sc__law_odd_net.nd rfl (Or.inl rfl) (pe_tup (pa_cons (pe_tup (pa_cons pe_str (pa_cons (pe_tup (pa_cons pe_int (pa_cons pe_int pa_nil))) pa_nil))) (pa_cons (pe_tup (pa_cons pe_str (pa_cons (pe_tup (pa_cons pe_int (pa_cons pe_int (pa_cons pe_int pa_nil)))) pa_nil))) (pa_cons (pe_tup (pa_cons pe_str (pa_cons (pe_tup (pa_cons pe_int (pa_cons pe_int pa_nil))) pa_nil))) (pa_cons (pe_tup (pa_cons pe_str (pa_cons pe_int pa_nil))) (pa_cons (pe_tup (pa_cons pe_str (pa_cons pe_int pa_nil))) pa_nil)))))))
    (pss_cons (ps_set (i := 7) sc__law_odd_net.nd rfl (Or.inl rfl) (pe_op catt (pv 7) (pe_tup (pa_cons (pe_tup (pa_cons pe_str (pa_cons pe_str pa_nil))) (pa_cons (pe_tup (pa_cons pe_str (pa_cons pe_str pa_nil))) (pa_cons (pe_tup (pa_cons pe_str (pa_cons pe_str pa_nil))) pa_nil))))))
    (pss_one (ps_ret (pe_ix ixl (pe_lst (pa_cons (pv 1) (pa_cons (pv 2) (pa_cons (pv 3) (pa_cons (pv 4) (pa_cons (pv 5) (pa_cons (pv 6) (pa_cons (pv 7) (pa_cons (pe_tup (pa_cons (pe_tup (pa_cons pe_str (pa_cons pe_str pa_nil))) pa_nil)) pa_nil))))))))) (pe_f C__law_draw hr rfl (pa_cons (pv 0) (pa_cons pe_int pa_nil))) (fun _ _ => rfl)))))))))))))))), ?_⟩
  obtain ⟨p, pq, c, rfl, hp, hc, q⟩ := hsp
  have hp0 := hp
  have S0 := Same.refl' H
  refine seq_lit (d := encN odd1) ?_ fun v1 H1 S1 d1 => ?_
  · repeat first | exact lit_str _ | exact lit_int _ | exact lits_nil | refine lits_cons ?_ ?_ | refine lit_tup ?_ (by decide)
  have S0 := Same.trans' S0 S1
  refine seq_lit (d := encN (odd2.take 4)) ?_ fun v2 H2 S2 d2 => ?_
  · repeat first | exact lit_str _ | exact lit_int _ | exact lits_nil | refine lits_cons ?_ ?_ | refine lit_tup ?_ (by decide)
  have S0 := Same.trans' S0 S2
  have d1 := d1.up (Same.tk S2)
  refine seq_cat (ds := (odd2.take 4).map encR) (es := (odd2.drop 4).map encR) rfl d2 ?_ (by decide) fun v3 H3 S3 d2 => ?_
  · repeat first | exact lit_str _ | exact lit_int _ | exact lits_nil | refine lits_cons ?_ ?_ | refine lit_tup ?_ (by decide)
  have S0 := Same.trans' S0 S3
  have d1 := d1.up (Same.tk S3)
  replace d2 : DT H3 v3 (encN odd2) := d2
  refine seq_lit (d := encN (odd3.take 5)) ?_ fun v4 H4 S4 d3 => ?_
  · repeat first | exact lit_str _ | exact lit_int _ | exact lits_nil | refine lits_cons ?_ ?_ | refine lit_tup ?_ (by decide)
  have S0 := Same.trans' S0 S4
  have d1 := d1.up (Same.tk S4)
  have d2 := d2.up (Same.tk S4)
  refine seq_cat (ds := (odd3.take 5).map encR) (es := (odd3.drop 5).map encR) rfl d3 ?_ (by decide) fun v5 H5 S5 d3 => ?_
  · repeat first | exact lit_str _ | exact lit_int _ | exact lits_nil | refine lits_cons ?_ ?_ | refine lit_tup ?_ (by decide)
  have S0 := Same.trans' S0 S5
  have d1 := d1.up (Same.tk S5)
  have d2 := d2.up (Same.tk S5)
  replace d3 : DT H5 v5 (encN odd3) := d3
  refine seq_lit (d := encN (odd4.take 5)) ?_ fun v6 H6 S6 d4 => ?_
  · repeat first | exact lit_str _ | exact lit_int _ | exact lits_nil | refine lits_cons ?_ ?_ | refine lit_tup ?_ (by decide)
  have S0 := Same.trans' S0 S6
  have d1 := d1.up (Same.tk S6)
  have d2 := d2.up (Same.tk S6)
  have d3 := d3.up (Same.tk S6)
  refine seq_cat (ds := (odd4.take 5).map encR) (es := (odd4.drop 5).map encR) rfl d4 ?_ (by decide) fun v7 H7 S7 d4 => ?_
  · repeat first | exact lit_str _ | exact lit_int _ | exact lits_nil | refine lits_cons ?_ ?_ | refine lit_tup ?_ (by decide)
  have S0 := Same.trans' S0 S7
  have d1 := d1.up (Same.tk S7)
  have d2 := d2.up (Same.tk S7)
  have d3 := d3.up (Same.tk S7)
  replace d4 : DT H7 v7 (encN odd4) := d4
  refine seq_lit (d := encN odd5) ?_ fun v8 H8 S8 d5 => ?_
  · repeat first | exact lit_str _ | exact lit_int _ | exact lits_nil | refine lits_cons ?_ ?_ | refine lit_tup ?_ (by decide)
  have S0 := Same.trans' S0 S8
  have d1 := d1.up (Same.tk S8)
  have d2 := d2.up (Same.tk S8)
  have d3 := d3.up (Same.tk S8)
  have d4 := d4.up (Same.tk S8)
  refine seq_lit (d := encN (odd6.take 5)) ?_ fun v9 H9 S9 d6 => ?_
  · repeat first | exact lit_str _ | exact lit_int _ | exact lits_nil | refine lits_cons ?_ ?_ | refine lit_tup ?_ (by decide)
  have S0 := Same.trans' S0 S9
  have d1 := d1.up (Same.tk S9)
  have d2 := d2.up (Same.tk S9)
  have d3 := d3.up (Same.tk S9)
  have d4 := d4.up (Same.tk S9)
  have d5 := d5.up (Same.tk S9)
  refine seq_cat (ds := (odd6.take 5).map encR) (es := (odd6.drop 5).map encR) rfl d6 ?_ (by decide) fun v10 H10 S10 d6 => ?_
  · repeat first | exact lit_str _ | exact lit_int _ | exact lits_nil | refine lits_cons ?_ ?_ | refine lit_tup ?_ (by decide)
  have S0 := Same.trans' S0 S10
  have d1 := d1.up (Same.tk S10)
  have d2 := d2.up (Same.tk S10)
  have d3 := d3.up (Same.tk S10)
  have d4 := d4.up (Same.tk S10)
  have d5 := d5.up (Same.tk S10)
  replace d6 : DT H10 v10 (encN odd6) := d6
  refine seq_lit (d := encN (odd7.take 5)) ?_ fun v11 H11 S11 d7 => ?_
  · repeat first | exact lit_str _ | exact lit_int _ | exact lits_nil | refine lits_cons ?_ ?_ | refine lit_tup ?_ (by decide)
  have S0 := Same.trans' S0 S11
  have d1 := d1.up (Same.tk S11)
  have d2 := d2.up (Same.tk S11)
  have d3 := d3.up (Same.tk S11)
  have d4 := d4.up (Same.tk S11)
  have d5 := d5.up (Same.tk S11)
  have d6 := d6.up (Same.tk S11)
  refine seq_cat (ds := (odd7.take 5).map encR) (es := (odd7.drop 5).map encR) rfl d7 ?_ (by decide) fun v12 H12 S12 d7 => ?_
  · repeat first | exact lit_str _ | exact lit_int _ | exact lits_nil | refine lits_cons ?_ ?_ | refine lit_tup ?_ (by decide)
  have S0 := Same.trans' S0 S12
  have d1 := d1.up (Same.tk S12)
  have d2 := d2.up (Same.tk S12)
  have d3 := d3.up (Same.tk S12)
  have d4 := d4.up (Same.tk S12)
  have d5 := d5.up (Same.tk S12)
  have d6 := d6.up (Same.tk S12)
  replace d7 : DT H12 v12 (encN odd7) := d7
  refine ⟨_, rfl, _, rfl, _, rfl, _, rfl, _, rfl, _, rfl, _, rfl, small (show 2 ≤ 10000 by decide), fun t1 ht1 => ⟨small (show 1 ≤ 10000 by decide), fun t2 ht2 => ⟨small (show 8 ≤ 10000 by decide), fun l hl => ?_⟩⟩⟩
  have SA : Same H12 (upd (upd (upd H12 t1 (.tup [.str "leaf", .str "zz"])) t2 (.tup [.ref t1])) l (.lst [v1, v3, v5, v7, v8, v10, v12, .ref t2])) := Same.trans' (same_upd ht1) (Same.trans' (same_upd ht2) (same_upd hl))
  have hlA : upd (upd (upd H12 t1 (.tup [.str "leaf", .str "zz"])) t2 (.tup [.ref t1])) l (.lst [v1, v3, v5, v7, v8, v10, v12, .ref t2]) l = some (.lst [v1, v3, v5, v7, v8, v10, v12, .ref t2]) := upd_same
  have d8 : DT (upd (upd (upd H12 t1 (.tup [.str "leaf", .str "zz"])) t2 (.tup [.ref t1])) l (.lst [v1, v3, v5, v7, v8, v10, v12, .ref t2])) (.ref t2) (encN odd8) := by
    refine .tup (xs := [.ref t1]) ((same_upd hl) _ _ upd_same) (.cons (.tup (xs := [.str "leaf", .str "zz"]) ((same_upd hl) _ _ ((same_upd ht2) _ _ upd_same)) (.cons (.str _) (.cons (.str _) .nil))) .nil)
  generalize upd (upd (upd H12 t1 (.tup [.str "leaf", .str "zz"])) t2 (.tup [.ref t1])) l (.lst [v1, v3, v5, v7, v8, v10, v12, .ref t2]) = HA at SA hlA d8 ⊢
  have hpA := (hp.up S0).up SA
  refine ⟨_, rfl, p, pq, c, 8, rfl, hpA, by omega, by decide, by decide, fun H' r b' p' r0 r1 => ?_⟩
  have tk := But.tkP b' hpA
  have BA : But p H H' := But.trans' (But.of (Same.trans' S0 SA)) b'
  have hl' := b' _ _ (hpA.ne hlA) hlA
  have go : ∀ {v : V} {N : Net}, DT H12 v (encN N) → DT H' v (encN N) := fun h => (h.up (Same.tk SA)).up tk
  have : r = 0 ∨ r = 1 ∨ r = 2 ∨ r = 3 ∨ r = 4 ∨ r = 5 ∨ r = 6 ∨ r = 7 := by omega
  have g1 := goodB_ok (N := odd1) (by decide +kernel)
  have g2 := goodB_ok (N := odd2) (by decide +kernel)
  have g3 := goodB_ok (N := odd3) (by decide +kernel)
  have g4 := goodB_ok (N := odd4) (by decide +kernel)
  have g5 := goodB_ok (N := odd5) (by decide +kernel)
  have g6 := goodB_ok (N := odd6) (by decide +kernel)
  have g7 := goodB_ok (N := odd7) (by decide +kernel)
  have g8 := goodB_ok (N := odd8) (by decide +kernel)
  rcases this with e | e | e | e | e | e | e | e <;> subst e
  · exact ⟨l, _, 0, v1, rfl, rfl, hl', atI_nat (j := 0) rfl, q _ _ odd1 BA p' (go d1) g1.1 g1.2⟩
  · exact ⟨l, _, 1, v3, rfl, rfl, hl', atI_nat (j := 1) rfl, q _ _ odd2 BA p' (go d2) g2.1 g2.2⟩
  · exact ⟨l, _, 2, v5, rfl, rfl, hl', atI_nat (j := 2) rfl, q _ _ odd3 BA p' (go d3) g3.1 g3.2⟩
  · exact ⟨l, _, 3, v7, rfl, rfl, hl', atI_nat (j := 3) rfl, q _ _ odd4 BA p' (go d4) g4.1 g4.2⟩
  · exact ⟨l, _, 4, v8, rfl, rfl, hl', atI_nat (j := 4) rfl, q _ _ odd5 BA p' (go d5) g5.1 g5.2⟩
  · exact ⟨l, _, 5, v10, rfl, rfl, hl', atI_nat (j := 5) rfl, q _ _ odd6 BA p' (go d6) g6.1 g6.2⟩
  · exact ⟨l, _, 6, v12, rfl, rfl, hl', atI_nat (j := 6) rfl, q _ _ odd7 BA p' (go d7) g7.1 g7.2⟩
  · exact ⟨l, _, 7, _, rfl, rfl, hl', atI_nat (j := 7) rfl, q _ _ odd8 BA p' (d8.up tk) g8.1 g8.2⟩
end
end JT
/-! A10: any net. -/
namespace JT
open PySem PySem.Spec PyProof.Rows L2 PySem.W
abbrev s__law_any_net : Stmt := topS 73
abbrev n__law_any_net : List Str := ["_law_pen_here", "_law_most", "_law_many", "_law_tree_here"]
theorem sc__law_any_net : FnScope n__law_any_net ["_law_pen_here", "_law_most"] (defScope s__law_any_net) :=
  ⟨rfl, rfl, rfl, by decide +kernel, rfl, by decide +kernel, by decide +kernel⟩
section
variable {P : Program} {w : World} {K : PySem.W.Frag} {mg : Str → Option Value} {base : Heap}
theorem names13_ok : ∀ x ∈ names13, NameOk x := by
  have h : names13.all nameB = true := by decide +kernel
  intro s hs
  have z := List.all_eq_true.mp h s hs
  unfold nameB at z
  simp only [Bool.and_eq_true, decide_eq_true_eq, List.all_eq_true, List.contains_iff_mem] at z
  exact ⟨z.1.1, z.1.2, z.2⟩
def spLAny : Sp := fun vs H Q _ => ∃ (p pq : Addr) (c m : Nat), vs = [.ref p, natV m] ∧ PenAt H p pq c ∧ c + 1000 ≤ 100000 ∧ m ≤ 6 ∧ ∀ H' v N', But p H H' → PenAt H' p pq (c + 300) → DT H' v (encN N') → Good N' → N'.length ≤ 39 → Q v H'
theorem c__law_any_net (T : Top mg) (D : Def K mg "_law_any_net" "_law_any_net" s__law_any_net) (C__law_draw : Cal P w K mg base 1 "_law_draw" spDraw) (C__law_odd_net : Cal P w K mg base 2 "_law_odd_net" spLOdd) (C__law_names : Cal P w K mg base 2 "_law_names" spLNames) (C__law_tree : Cal P w K mg base 3 "_law_tree" spLTree) (C__law_net : Cal P w K mg base 13 "_law_net" spLNet) : Cal P w K mg base 14 "_law_any_net" spLAny := by
  have C__law_draw := C__law_draw.mono (show 1 ≤ 13 by decide)
  have C__law_odd_net := C__law_odd_net.mono (show 2 ≤ 13 by decide)
  have C__law_names := C__law_names.mono (show 2 ≤ 13 by decide)
  have C__law_tree := C__law_tree.mono (show 3 ≤ 13 by decide)
  refine D.cal sc__law_any_net (fun _ _ _ _ _ _ us hl => match us, hl with | [_, _], _ => rfl) (fun vs H Q E h => ?_) fun f cdv A outer s H vs Q E hr hsp => ?_
  · obtain ⟨_, _, _, _, rfl, _⟩ := h; rfl
  have hu := hu_of hr
  refine ⟨_, (pss_cons (ps_if (pt_cmpR op_eq (pe_f C__law_draw hr rfl (pa_cons (pv 0) (pa_cons pe_int pa_nil))) pe_int (nomark _)) (pss_one (ps_ret (pe_f C__law_odd_net hr rfl (pa_cons (pv 0) pa_nil)))) pss_nil)
    (pss_cons (ps_set (i := 2) sc__law_any_net.nd rfl (Or.inl rfl) (pe_ix ixl (pe_lst (pa_cons (pe_op op_add pe_int (pe_f C__law_draw hr rfl (pa_cons (pv 0) (pa_cons pe_int pa_nil)))) (pa_cons (pe_op op_add pe_int (pe_f C__law_draw hr rfl (pa_cons (pv 0) (pa_cons pe_int pa_nil)))) (pa_cons pe_int (pa_cons pe_int pa_nil))))) (pe_f C__law_draw hr rfl (pa_cons (pv 0) (pa_cons pe_int pa_nil))) (fun _ _ => rfl)))
    (pss_cons (ps_set (i := 3) sc__law_any_net.nd rfl (Or.inl rfl) (pe_f C__law_tree hr rfl (pa_cons (pv 0) (pa_cons (pe_f C__law_names hr rfl (pa_cons (pv 0) (pa_cons (pv 2) pa_nil))) (pa_cons (pe_f C__law_draw hr rfl (pa_cons (pv 0) (pa_cons pe_int pa_nil))) pa_nil)))))
    (pss_one (ps_ret (pe_f C__law_net hr rfl (pa_cons (pv 0) (pa_cons (pv 3) (pa_cons (pe_f C__law_draw hr rfl (pa_cons (pv 0) (pa_cons (pe_op op_add (pv 1) pe_int) pa_nil))) pa_nil))))))))), ?_⟩
  obtain ⟨p, pq, c, m, rfl, hp, hc, hm, q⟩ := hsp
  refine ⟨_, rfl, p, pq, c, 6, rfl, hp, by omega, by decide, by decide, fun H1 r1 b1 p1 r10 r11 => ⟨rfl, _, rfl, ite2 (fun _ => ?_) fun _ => ?_⟩⟩
  · refine ⟨_, rfl, p, pq, c + 1, rfl, p1, by omega, fun H2 v2 N2 b2 p2 d2 G2 l2 => ?_⟩
    exact q _ _ N2 (But.trans' b1 b2) (p2.more (by omega)) d2 G2 l2
  · refine ⟨_, rfl, p, pq, c + 1, 8, rfl, p1, by omega, by decide, by decide, fun H2 r2 b2 p2 r20 r21 => ?_⟩
    refine ⟨1, _, rfl, rfl, _, rfl, p, pq, c + 2, 4, rfl, p2, by omega, by decide, by decide, fun H3 r3 b3 p3 r30 r31 => ?_⟩
    refine ⟨2, _, rfl, rfl, small (show 4 ≤ 10000 by decide), fun l hl => ?_⟩
    have S4 := same_upd (o := .lst [.int (1 + r2), .int (2 + r3), .int 10, .int 3]) hl
    have hl4 : upd H3 l (.lst [.int (1 + r2), .int (2 + r3), .int 10, .int 3]) l = some (.lst [.int (1 + r2), .int (2 + r3), .int 10, .int 3]) := upd_same
    have p4 := p3.up S4
    dsimp only
    generalize upd H3 l (.lst [.int (1 + r2), .int (2 + r3), .int 10, .int 3]) = H4 at S4 hl4 p4 ⊢
    refine ⟨_, rfl, p, pq, c + 3, 4, rfl, p4, by omega, by decide, by decide, fun H5 r5 b5 p5 r50 r51 => ?_⟩
    obtain ⟨mm, hmm, hm1, hm2⟩ : ∃ mm : Nat, atI [V.int (1 + r2), V.int (2 + r3), V.int 10, V.int 3] r5 = some (natV mm) ∧ 1 ≤ mm ∧ mm ≤ 10 := by
      have : r5 = 0 ∨ r5 = 1 ∨ r5 = 2 ∨ r5 = 3 := by omega
      rcases this with e | e | e | e <;> subst e
      · refine ⟨(1 + r2).toNat, ?_, by omega, by omega⟩
        rw [show natV (1 + r2).toNat = V.int (1 + r2) by unfold natV; congr 1; omega]
        exact atI_nat (j := 0) rfl
      · refine ⟨(2 + r3).toNat, ?_, by omega, by omega⟩
        rw [show natV (2 + r3).toNat = V.int (2 + r3) by unfold natV; congr 1; omega]
        exact atI_nat (j := 1) rfl
      · exact ⟨10, atI_nat (j := 2) rfl, by omega, by omega⟩
      · exact ⟨3, atI_nat (j := 3) rfl, by omega, by omega⟩
    have B5 : But p H H5 := But.trans' b1 (But.trans' b2 (But.trans' b3 (But.trans' (But.of S4) b5)))
    refine ⟨l, _, r5, natV mm, rfl, rfl, b5 _ _ (p4.ne hl4) hl4, hmm, ?_⟩
    refine ⟨_, rfl, _, rfl, _, rfl, p, pq, c + 4, mm, rfl, p5, by omega, by omega, fun H6 l6 ys b6 p6 hl6 hyl hnd hmem hsort => ?_⟩
    refine ⟨_, rfl, p, pq, c + 4 + mm, 2, rfl, p6, by omega, by decide, by decide, fun H7 r7 b7 p7 r70 r71 => ?_⟩
    refine ⟨p, pq, l6, _, r7, ys, rfl, p7, by omega, r70, by omega, b7 _ _ (p6.ne hl6) hl6, by omega, by omega, fun H8 v8 t8 b8 p8 d8 bin8 pm8 => ?_⟩
    have B8 : But p H H8 := But.trans' B5 (But.trans' b6 (But.trans' b7 b8))
    refine ⟨_, rfl, _, rfl, _, rfl, _, rfl, _, 1, rfl, rfl, p, pq, _, _, rfl, p8, by omega, by omega, by omega, fun H9 r9 b9 p9 r90 r91 => ?_⟩
    obtain ⟨k9, rfl⟩ := Int.eq_ofNat_of_zero_le r90
    refine ⟨p, pq, v8, t8, _, k9, rfl, p9, by omega, d8.up (But.tkP b9 p8), bin8, pm8.nodup_iff.mpr hnd, by rw [pm8.length_eq]; omega, fun n hn => names13_ok n (hmem n (pm8.mem_iff.mp hn)), by omega, fun H10 q10 N' b10 p10 d10 G10 l10 => ?_⟩
    exact q _ _ N' (But.trans' B8 (But.trans' b9 b10)) (p10.more (by omega)) d10 G10 l10
end
end JT
/-! A11: the rows of a net in another order. -/
namespace JT
open PySem PySem.Spec PyProof.Rows L2 PySem.W
abbrev s__law_moved_rows : Stmt := topS 76
abbrev n__law_moved_rows : List Str := ["_law_pen_here", "_law_net_here", "_law_left", "_law_order", "_law_anew", "_law_found", "_law_at", "_law_word", "_law_what", "_law_k", "_law_kid"]
theorem sc__law_moved_rows : FnScope n__law_moved_rows ["_law_pen_here", "_law_net_here"] (defScope s__law_moved_rows) :=
  ⟨rfl, rfl, rfl, by decide +kernel, rfl, by decide +kernel, by decide +kernel⟩
section
variable {P : Program} {w : World} {K : PySem.W.Frag} {mg : Str → Option Value} {base : Heap}
/-- the row with its kids renumbered -/
def Row.ren (π : Nat → Nat) : Row → Row
  | .leaf s => .leaf s
  | .fork ks => .fork (ks.map π)
  | .join k => .join (π k)
theorem ren_tag (π : Nat → Nat) (r : Row) : (r.ren π).tag = r.tag := by cases r <;> rfl
theorem pos_lt' {o : List Nat} {a : Nat} (h : a ∈ o) : pos o a < o.length := List.idxOf_lt_length_iff.mpr h
theorem at_pos' {o : List Nat} {a : Nat} (h : a ∈ o) : o[pos o a]? = some a := by
  rw [List.getElem?_eq_getElem (pos_lt' h)]
  congr 1
  exact List.getElem_idxOf (pos_lt' h)
theorem moved_iso {N N' : Net} {o : List Nat} (G : Loose N) (po : o.Perm (List.range N.length)) (h0 : o[0]? = some 0) (hl : N'.length = N.length) (h : ∀ (i a : Nat) (r : Row), o[i]? = some a → N[a]? = some r → N'[i]? = some (r.ren (pos o))) : Iso N N' (pos o) := by
  have mem : ∀ {a}, a < N.length → a ∈ o := fun h => po.mem_iff.mpr (List.mem_range.mpr h)
  have ol : o.length = N.length := by rw [po.length_eq, List.length_range]
  have row : ∀ (i : Nat) (r : Row), N[i]? = some r → N'[pos o i]? = some (r.ren (pos o)) := fun i r e => h _ i r (at_pos' (mem (List.getElem?_eq_some_iff.mp e).1)) e
  refine ⟨hl, fun i hi => by rw [← ol]; exact pos_lt' (mem hi), fun i j hi hj e => ?_, ?_, fun i s e => row i _ e, fun i ks e => ⟨_, row i _ e, .refl _⟩, fun i k e => row i _ e⟩
  · have h1 := at_pos' (mem hi)
    rw [e, at_pos' (mem hj)] at h1
    exact (Option.some.inj h1).symm
  · unfold pos
    cases o with
    | nil => cases h0
    | cons a o =>
      have : a = 0 := by simpa using h0
      subst this
      simp
def spLMoved : Sp := fun vs H Q _ => ∃ (p pq : Addr) (v : V) (c : Nat) (N : Net), vs = [.ref p, v] ∧ PenAt H p pq c ∧ c + 100 ≤ 100000 ∧ DT H v (encN N) ∧ Loose N ∧
  ∀ H' q N' π, But p H H' → PenAt H' p pq (c + 50) → DT H' (.ref q) (encN N') → Iso N N' π → Q (.ref q) H'
theorem rgV_nat (n : Nat) (h : 1 ≤ n) : rgV 1 (n : Int) = ((List.range' 1 (n - 1)).map natV) := by
  unfold rgV
  have e : ((n : Int) - 1).toNat = n - 1 := by omega
  rw [e]
  apply List.ext_getElem
  · simp
  · intro j h1 h2
    simp [natV]
theorem c__law_moved_rows (T : Top mg) (D : Def K mg "_law_moved_rows" "_law_moved_rows" s__law_moved_rows) (C__law_draw : Cal P w K mg base 1 "_law_draw" spDraw) : Cal P w K mg base 2 "_law_moved_rows" spLMoved := by
  refine D.cal sc__law_moved_rows (fun _ _ _ _ _ _ us hl => match us, hl with | [_, _], _ => rfl) (fun vs H Q E h => ?_) fun f cdv A outer s H vs Q E hr hsp => ?_
  · obtain ⟨_, _, _, _, _, rfl, _⟩ := h; rfl
  have hu := hu_of hr
  have hu64 := hu64_of hr
  refine ⟨_, (pss_cons (ps_set (i := 2) sc__law_moved_rows.nd rfl (Or.inl rfl) (pe_listRg rfl rfl T.list (prg_2 rfl T.range pe_int (pe_callB lenq rfl T.len PySem.boot_len (pa_cons (pv 1) pa_nil)))))
    (pss_cons (ps_set (i := 3) sc__law_moved_rows.nd rfl (Or.inl rfl) (pe_lst (pa_cons pe_int pa_nil)))
    (pss_cons (ps_while PassesOwn.never (pt_cmpR (ned hu64) (pv 2) (pe_lst pa_nil) (nomark _)) (pss_one (ps_expr (pe_ml PySem.F.slot_list_append PySem.F.type_list_append mt_append (pv 3) (pa_cons (pe_ml PySem.F.slot_list_pop PySem.F.type_list_pop mt_popAt (pv 2) (pa_cons (pe_f C__law_draw hr rfl (pa_cons (pv 0) (pa_cons (pe_callB lenq rfl T.len PySem.boot_len (pa_cons (pv 2) pa_nil)) pa_nil))) pa_nil)) pa_nil)))))
    (pss_cons (ps_set (i := 4) sc__law_moved_rows.nd rfl (Or.inr rfl) (pe_callTy (dctP rfl) rfl T.dict (by decide +kernel) (pa_cons (pe_lc (own := [("_law_k", 9), ("_law_at", 6)]) (tt := tYes) rfl sc__law_moved_rows.nd (pi_enum rfl T.enumerate (pa_cons (pv 3) pa_nil)) (blkOk_by (own := [("_law_k", 9), ("_law_at", 6)]) (N := n__law_moved_rows) (sc := defScope s__law_moved_rows) (by decide +kernel)) (fun _ _ _ _ _ => (pgt (n := 2) rfl (pgs_cons (pg_name (i := 9) sc__law_moved_rows.nd rfl (Or.inl rfl)) (pgs_cons (pg_name (i := 6) sc__law_moved_rows.nd rfl (Or.inl rfl)) pgs_nil)))) (fun _ _ _ _ _ => pts_nil) (fun _ _ _ _ _ => (pe_tup (pa_cons (pv 6) (pa_cons (pv 9) pa_nil))))) pa_nil)))
    (pss_cons (ps_set (i := 5) sc__law_moved_rows.nd rfl (Or.inl rfl) (pe_lst pa_nil))
    (pss_cons (ps_for PassesOwn.never rfl (pi_listK K (pv 3)) (pg_name (i := 6) sc__law_moved_rows.nd rfl (Or.inl rfl))
    (pss_cons (ps_asg (pe_ix ixt (pv 1) (pv 6) (fun _ _ => rfl)) (pgt (n := 2) rfl (pgs_cons (pg_name (i := 7) sc__law_moved_rows.nd rfl (Or.inl rfl)) (pgs_cons (pg_name (i := 8) sc__law_moved_rows.nd rfl (Or.inl rfl)) pgs_nil))))
    (pss_cons (ps_if (pt_cmpR op_eq (pv 7) pe_str (nomark _)) (pss_one (ps_set (i := 8) sc__law_moved_rows.nd rfl (Or.inl rfl) (pe_callTy tupOf rfl T.tuple (by decide +kernel) (pa_cons (pe_lc (own := [("_law_kid", 10)]) (g := gName 10) (tt := tYes) rfl sc__law_moved_rows.nd (pi_tupK K (pv 8)) (blkOk_by (own := [("_law_kid", 10)]) (N := n__law_moved_rows) (sc := defScope s__law_moved_rows) (by decide +kernel)) (fun _ _ _ _ _ => (pg_name (i := 10) sc__law_moved_rows.nd rfl (Or.inl rfl))) (fun _ _ _ _ _ => pts_nil) (fun _ _ _ _ _ => (pe_dget hu (pv 4) (pv 10) (fun _ _ => rfl)))) pa_nil)))) pss_nil)
    (pss_cons (ps_if (pt_cmpR op_eq (pv 7) pe_str (nomark _)) (pss_one (ps_set (i := 8) sc__law_moved_rows.nd rfl (Or.inl rfl) (pe_dget hu (pv 4) (pv 8) (fun _ _ => rfl)))) pss_nil)
    (pss_one (ps_expr (pe_ml PySem.F.slot_list_append PySem.F.type_list_append mt_append (pv 5) (pa_cons (pe_tup (pa_cons (pv 7) (pa_cons (pv 8) pa_nil))) pa_nil))))))))
    (pss_one (ps_ret (pe_callTy tupOf rfl T.tuple (by decide +kernel) (pa_cons (pv 5) pa_nil)))))))))), ?_⟩
  obtain ⟨p, pq, v, c, N, rfl, hp, hc, hd, G, q⟩ := hsp
  have h49 := G.len
  have hpos := G.pos
  obtain ⟨a, xs, rfl, ha, hlen, hrow⟩ := net_at hd
  refine ⟨_, rfl, a, xs, rfl, .inr ha, 1, _, rfl, rfl, RgOk.of_le (by omega) (by omega) (by omega) (by omega), fun l hl => ?_⟩
  rw [hlen, rgV_nat _ hpos]
  have S1 := same_upd (o := .lst ((List.range' 1 (N.length - 1)).map natV)) hl
  have hl1 : upd H l (.lst ((List.range' 1 (N.length - 1)).map natV)) l = some (.lst ((List.range' 1 (N.length - 1)).map natV)) := upd_same
  generalize upd H l (.lst ((List.range' 1 (N.length - 1)).map natV)) = H1 at S1 hl1 ⊢
  refine ⟨small (show 1 ≤ 10000 by decide), fun b hb => ?_⟩
  have S2 := Same.trans' S1 (same_upd (o := .lst [.int 0]) hb)
  have hl2 := (same_upd (o := .lst [.int 0]) hb) _ _ hl1
  have hb2 : upd H1 b (.lst [.int 0]) b = some (.lst ([0].map natV)) := upd_same
  have nbl : b ≠ l := fun z => by rw [z, hl1] at hb; cases hb
  have b0 : H b = none := by
    cases e : H b with
    | none => rfl
    | some o => rw [S1 _ _ e] at hb; cases hb
  generalize upd H1 b (.lst [.int 0]) = H2 at S2 hl2 hb2 ⊢
  refine ⟨fun m σ H4 => (∃ s4 s5 s6 s7 s8 s9 s10, σ = [some (.ref p), some (.ref a), some (.ref l), some (.ref b), s4, s5, s6, s7, s8, s9, s10]) ∧ But p H H4 ∧ ∃ L o : List Nat, H4 l = some (.lst (L.map natV)) ∧ H4 b = some (.lst (o.map natV)) ∧ (o ++ L).Perm (List.range N.length) ∧ o[0]? = some 0 ∧ PenAt H4 p pq (c + o.length) ∧ m = L.length,
    ⟨_, ⟨_, _, _, _, _, _, _, rfl⟩, But.of S2, List.range' 1 (N.length - 1), [0], hl2, hb2, ?_, rfl, (hp.up S2).more (by omega), rfl⟩, ?_⟩
  · have e : List.range N.length = 0 :: List.range' 1 (N.length - 1) := by
      rw [List.range_eq_range', show N.length = (N.length - 1) + 1 by omega, List.range'_succ]
      simp
    rw [e]
    exact .refl _
  rintro m σ H4 ⟨⟨s4, s5, s6, s7, s8, s9, s10, rfl⟩, B4, L, o, hl4, hb4, po, ho0, p4, rfl⟩
  have lens : o.length + L.length = N.length := by
    have := po.length_eq
    rw [List.length_append, List.length_range] at this
    exact this
  refine ⟨_, rfl, Nat.zero_le _, fun q1 hq1 => ⟨_, _, dq_nats ((same_upd hq1) _ _ hl4), dq_nil upd_same, shaped_nats _, by decide, ?_⟩⟩
  have S5 := same_upd (o := .lst []) hq1
  have B5 : But p H (upd H4 q1 (.lst [])) := But.trans' B4 (But.of S5)
  have hl5 := S5 _ _ hl4
  have hb5 := S5 _ _ hb4
  have p5 := p4.up S5
  generalize upd H4 q1 (.lst []) = H5 at S5 B5 hl5 hb5 p5 ⊢
  rw [ne_nil_nats]
  refine ⟨_, rfl, ?_⟩
  by_cases hL : L = []
  · subst hL
    refine iteF ?_
    have po : o.Perm (List.range N.length) := by rw [List.append_nil] at po; exact po
    have ol : o.length = N.length := by rw [po.length_eq, List.length_range]
    have mem : ∀ {a}, a ∈ o ↔ a < N.length := fun {a} => by rw [po.mem_iff, List.mem_range]
    have ond : o.Nodup := po.nodup_iff.mpr List.nodup_range
    have p5 := p5.more (m := c + 50) (by omega)
    have onat : ∀ i, i < N.length → ∃ x, o[i]? = some x ∧ (o.map natV)[i]? = some (natV x) ∧ x < N.length := fun i hi => by
      have e : o[i]? = some (o[i]'(by omega)) := List.getElem?_eq_getElem _
      exact ⟨_, e, by rw [List.getElem?_map, e]; rfl, mem.mp (List.mem_of_getElem? e)⟩
    -- anew
    refine ⟨_, rfl, b, _, rfl, sl_at hb5, fun D3 hD3 => ?_⟩
    refine lc_rel (n := N.length) (fun j y H11 => ∃ r, y = .ref r ∧ H11 r = some (.tup [natV (o.getD j 0), natV j])) (fun j y H11 H12 tk ⟨r, e, h⟩ => ⟨r, e, tk _ _ h (.inl ⟨_, rfl⟩)⟩) hD3 (by omega) (fun j H11 hj S11 => by
      obtain ⟨x, _, e, _⟩ := onat j hj
      exact ⟨_, _, sl_at (S11 _ _ hb5), e⟩) (fun H11 S11 => ⟨_, sl_at (S11 _ _ hb5), by rw [nats_len]; omega⟩) (fun j H11 y H12 Kt Kf hj S11 hy hKt => ?_) fun H11 ys S11 hys hyl hyR => ?_
    · obtain ⟨t, y, rfl, ht, rfl, hx⟩ := hy
      have hx := hx _ (sl_at (S11 _ _ hb5))
      obtain ⟨x, eo, ex, hxn⟩ := onat j hj
      rw [ex] at hx
      cases hx
      rw [show o.getD j 0 = x by rw [List.getD_eq_getElem?_getD, eo]; rfl] at hKt
      refine ⟨t, _, rfl, upd_same, rfl, _, _, rfl, _, _, rfl, rfl, rfl, ?_⟩
      exact ⟨_, rfl, _, rfl, small (show 2 ≤ 10000 by decide), fun r hr2 => hKt _ _ (Same.trans' (same_upd ht) (same_upd hr2)) ⟨r, rfl, by rw [upd_same]; rfl⟩⟩
    have yps : ys = (ys.map adrV).map V.ref := by
      rw [List.map_map]
      conv => lhs; rw [show ys = ys.map id by simp]
      refine List.map_congr_left fun y hy => ?_
      obtain ⟨j, hj⟩ := List.mem_iff_getElem?.mp hy
      obtain ⟨r, e, _⟩ := hyR j y hj
      rw [e]
      rfl
    refine ⟨D3, ys.map adrV, (List.range N.length).map (fun j => (nk (o.getD j 0), natV j)), rfl, by rw [← yps]; exact hys, paired_by_get (by simp [hyl]) fun i a b e1 e2 => ?_, fun an han => ?_⟩
    · rw [List.getElem?_map] at e1 e2
      obtain ⟨y, e3, e4⟩ := Option.map_eq_some_iff.mp e1
      obtain ⟨j, e5, e6⟩ := Option.map_eq_some_iff.mp e2
      obtain ⟨r, e, h⟩ := hyR i y e3
      have ej : j = i := by
        have := (List.getElem?_eq_some_iff.mp e5)
        obtain ⟨_, e⟩ := this
        simp at e
        exact e.symm
      subst ej
      rw [← e6, ← e4, e]
      exact h
    have akd : ∀ x, x < N.length → valV (mergeK [] ((List.range N.length).map (fun j => (nk (o.getD j 0), natV j)))) (nk x) = some (natV (pos o x)) := fun x hx => by
      refine merge_val _ _ ?_ _ _ ?_
      · rw [List.map_map]
        have e : (List.range N.length).map ((fun kv : Key × V => kv.1) ∘ fun j => (nk (o.getD j 0), natV j)) = o.map nk := by
          apply List.ext_getElem
          · simp [ol]
          · intro j h1 h2
            simp at h1 h2
            simp [List.getElem?_eq_getElem h2]
        rw [e, List.nodup_iff_pairwise_ne, List.pairwise_map]
        exact (List.nodup_iff_pairwise_ne.mp ond).imp fun h z => h (nk_inj z)
      · refine List.mem_map.mpr ⟨pos o x, List.mem_range.mpr (by rw [← ol]; exact pos_lt' (mem.mpr hx)), ?_⟩
        rw [List.getD_eq_getElem?_getD, at_pos' (mem.mpr hx)]
        rfl
    have S12 := Same.trans' S11 (same_upd (o := .dK (mergeK [] ((List.range N.length).map (fun j => (nk (o.getD j 0), natV j))))) han)
    have han11 : upd H11 an (.dK (mergeK [] ((List.range N.length).map (fun j => (nk (o.getD j 0), natV j))))) an = some (.dK (mergeK [] ((List.range N.length).map (fun j => (nk (o.getD j 0), natV j))))) := upd_same
    generalize mergeK [] ((List.range N.length).map (fun j => (nk (o.getD j 0), natV j))) = akv at akd S12 han11 ⊢
    generalize upd H11 an (.dK akv) = H12 at S12 han11 ⊢
    have B12 : But p H H12 := But.trans' B5 (But.of S12)
    have p12 := p5.up S12
    have hop := S12 _ _ hb5
    -- found
    refine ⟨Nat.zero_le _, fun fq hfq => ?_⟩
    let Inv2 : Nat → Hp → Prop := fun i H4 => Same H12 H4 ∧ ∃ (ys : List V) (rows : Net), H4 fq = some (.lst ys) ∧ DTs H4 ys (rows.map encR) ∧ rows.length = i ∧ ∀ (j x : Nat) (r : Row), j < i → o[j]? = some x → N[x]? = some r → rows[j]? = some (r.ren (pos o))
    have addrow : ∀ (i x : Nat) (r : Row) (H4 H6 : Hp) (rr : Addr), Inv2 i H4 → i < N.length → o[i]? = some x → N[x]? = some r → Same H4 H6 → DT H6 (.ref rr) (encR (r.ren (pos o))) → ∀ ys, H4 fq = some (.lst ys) → Inv2 (i + 1) (upd H6 fq (.lst (ys ++ [.ref rr]))) := by
      intro i x r H4 H6 rr ⟨S4, ys, rows, hy, hrows, hrl, hR⟩ hi eo er S46 dy ys' hys'
      rw [hy] at hys'
      cases hys'
      have hfq6 := S46 _ _ hy
      have tk1 : TK H6 (upd H6 fq (.lst (ys ++ [.ref rr]))) := tk_set hfq6 no_lst
      refine ⟨fun b u e => ?_, ys ++ [.ref rr], rows ++ [r.ren (pos o)], upd_same, ?_, by rw [List.length_append, hrl]; rfl, fun j x' r2 hj ej er2 => ?_⟩
      · rw [upd_ne (ne_of_none e hfq)]
        exact S46 _ _ (S4 _ _ e)
      · rw [List.map_append]
        exact DTs.snoc (hrows.up (TK.trans (Same.tk S46) tk1)) (dy.up tk1)
      · rcases Nat.lt_or_ge j i with h | h
        · rw [List.getElem?_append_left (by rw [hrl]; exact h)]
          exact hR j x' r2 h ej er2
        · have hji : j = i := by omega
          subst hji
          rw [eo] at ej
          cases ej
          rw [er] at er2
          cases er2
          rw [List.getElem?_append_right (by rw [hrl]; exact Nat.le_refl _), hrl]
          simp
    have akg : ∀ (H4 : Hp), Same H12 H4 → ∀ x, x < N.length → DGet H4 an (natV x) (some (natV (pos o x))) := fun H4 S4 x hx => by
      have z := DGet.k (k := nk x) (S4 _ _ han11)
      rw [akd x hx] at z
      exact z
    refine ⟨_, rfl, b, rfl, ⟨_, sl_at ((same_upd hfq) _ _ hop)⟩, ?_⟩
    refine for_gen (n := N.length) (fun i σ H4 => (∃ s6 s7 s8 s9 s10, σ = [some (.ref p), some (.ref a), some (.ref l), some (.ref b), some (.ref an), some (.ref fq), s6, s7, s8, s9, s10]) ∧ Inv2 i H4)
      ⟨⟨_, _, _, _, _, rfl⟩, same_upd hfq, [], [], upd_same, .nil, rfl, by intro j x r h; exact absurd h (Nat.not_lt_zero _)⟩ (fun i σ H4 hi ⟨_, S4, _⟩ => go_lst (S4 _ _ hop) (by rw [nats_len]; omega)) (fun σ H4 ⟨_, S4, _⟩ => st_lst (S4 _ _ hop) (by rw [nats_len]; omega)) (fun i σ H4a x H4 hi ⟨⟨s6, s7, s8, s9, s10, es⟩, I4⟩ hy => ?_) fun σ H4 ⟨⟨s6, s7, s8, s9, s10, es⟩, S4, ys, rows, hys, hrows, hrl, hR⟩ => ?_
    · subst es
      obtain ⟨rfl, hx⟩ := hy
      obtain ⟨S4, ys, rows, hys, hrows, hrl, hR2⟩ := id I4
      have hx := hx _ (sl_at (S4 _ _ hop))
      obtain ⟨x, eo, ex, hxn⟩ := onat i hi
      rw [ex] at hx
      cases hx
      obtain ⟨xx, hxx⟩ : ∃ xx, xs[x]? = some xx := ⟨_, List.getElem?_eq_getElem (by omega)⟩
      obtain ⟨r, er, hdr⟩ := hrow x xx hxx
      obtain ⟨rb, y, rfl, hrb, hy⟩ := row_at hdr
      have ylen : ys.length < sizeLine := by
        rw [hrows.length, List.length_map, hrl]
        exact smallT (by omega)
      have B4 : But p H H4 := But.trans' B12 (But.of S4)
      have nop : ∀ {b' : Addr} {zs : List V}, H b' = some (.tup zs) → H4 b' = some (.tup zs) := fun {b' zs} e => B4 _ _ (fun z => by
        obtain ⟨o', h⟩ := hp.kd
        rw [z, h] at e
        cases e) e
      have hy4 : DT H4 y (encWhat r) := hy.up (But.tkP B4 hp)
      have ek : kidsAt N x = r.kids := kidsAt_some er
      refine ⟨_, rfl, _, rfl, a, xs, (x : Int), _, rfl, rfl, nop ha, atI_nat hxx, rb, _, rfl, nop hrb, rfl, _, _, rfl, _, _, rfl, rfl, ?_⟩
      refine ⟨_, rfl, rfl, _, rfl, ?_⟩
      cases r with
      | leaf z =>
        refine iteN (by simp [Row.tag]; decide) ⟨_, rfl, rfl, _, rfl, iteN (by simp [Row.tag]; decide) ?_⟩
        refine ⟨_, rfl, ⟨fq, _, rfl, hys⟩, _, rfl, _, rfl, small (show 2 ≤ 10000 by decide), fun rr hrr => ?_⟩
        have S8 := same_upd (o := .tup [.str (Row.leaf z).tag, y]) hrr
        exact ⟨fq, ys, .ref rr, rfl, rfl, S8 _ _ hys, ylen, ⟨_, _, _, _, _, rfl⟩, addrow i x (.leaf z) H4 _ rr I4 hi eo er S8 (row_mk (r := .leaf z) upd_same (hy4.up (Same.tk S8))) ys hys⟩
      | fork ks =>
        obtain ⟨ay, rfl, hay⟩ := fork_at hy4
        have kle := G.kids_le x
        rw [ek] at kle
        have kle : ks.length ≤ 49 := kle
        refine iteP rfl ⟨_, rfl, ay, rfl, ⟨_, sq_at hay⟩, fun D6 hD6 => ?_⟩
        refine lc_map (n := ks.length) (fun _ => true) (fun j => natV (pos o (ks.getD j 0))) hD6 (by omega) (fun j H6 hj hS => go_tup (hS _ _ hay) (by rw [nats_len]; exact hj)) (fun H6 hS => st_tup (hS _ _ hay) (by rw [nats_len]; exact Nat.le_refl _)) (fun j H6 z H7 Kt Kf hj hS hz hKt hKf => ?_) fun H6 hS6 hl6 => ?_
        · obtain ⟨rfl, hz⟩ := hz
          have hz := hz _ (sq_at (hS _ _ hay))
          rw [nats_at hj] at hz
          cases hz
          have hlt := G.lt x ks[j] (by rw [ek]; exact List.getElem_mem hj)
          have eg : ks.getD j 0 = ks[j] := by rw [List.getD_eq_getElem?_getD, List.getElem?_eq_getElem hj]; rfl
          rw [eg] at hKt
          exact ⟨rfl, _, rfl, _, rfl, an, _, rfl, akg _ (Same.trans' S4 hS) _ hlt, hKt rfl _ (Same.refl' _)⟩
        have emap : kept (fun _ => true) (fun j => natV (pos o (ks.getD j 0))) ks.length = (ks.map (pos o)).map natV := by
          rw [kept_all, List.map_map]
          apply List.ext_getElem
          · simp
          · intro j h1 h2
            simp at h1
            simp [List.getElem?_eq_getElem h1]
        rw [emap] at hl6
        refine ⟨D6, _, rfl, hl6, fun l7 hl7 => ?_⟩
        have S7 : Same H4 (upd H6 l7 (.tup ((ks.map (pos o)).map natV))) := Same.trans' hS6 (same_upd hl7)
        have h7 : upd H6 l7 (.tup ((ks.map (pos o)).map natV)) l7 = some (.tup ((ks.map (pos o)).map natV)) := upd_same
        generalize upd H6 l7 (.tup ((ks.map (pos o)).map natV)) = H7 at S7 h7 ⊢
        refine ⟨_, rfl, rfl, _, rfl, iteN (by simp [Row.tag]; decide) ?_⟩
        refine ⟨_, rfl, ⟨fq, _, rfl, S7 _ _ hys⟩, _, rfl, _, rfl, small (show 2 ≤ 10000 by decide), fun rr hrr => ?_⟩
        have S8 := same_upd (o := .tup [.str (Row.fork ks).tag, .ref l7]) hrr
        exact ⟨fq, ys, .ref rr, rfl, rfl, S8 _ _ (S7 _ _ hys), ylen, ⟨_, _, _, _, _, rfl⟩, addrow i x (.fork ks) H4 _ rr I4 hi eo er (Same.trans' S7 S8) (row_mk (r := .fork (ks.map (pos o))) upd_same (.tup (S8 _ _ h7) (DTs.nats _))) ys hys⟩
      | join k =>
        have ey : y = natV k := hy4.of_int
        subst ey
        have hlt := G.lt x k (by rw [ek]; simp [Row.kids])
        refine iteN (by simp [Row.tag]; decide) ⟨_, rfl, rfl, _, rfl, iteP rfl ?_⟩
        refine ⟨_, rfl, _, rfl, an, _, rfl, akg _ S4 _ hlt, ?_⟩
        refine ⟨_, rfl, ⟨fq, _, rfl, hys⟩, _, rfl, _, rfl, small (show 2 ≤ 10000 by decide), fun rr hrr => ?_⟩
        have S8 := same_upd (o := .tup [.str (Row.join k).tag, natV (pos o k)]) hrr
        exact ⟨fq, ys, .ref rr, rfl, rfl, S8 _ _ hys, ylen, ⟨_, _, _, _, _, rfl⟩, addrow i x (.join k) H4 _ rr I4 hi eo er S8 (row_mk (r := .join (pos o k)) upd_same (.int _)) ys hys⟩
    · subst es
      refine ⟨_, rfl, fq, ys, rfl, hys, fun p' np => ?_⟩
      have S5 := same_upd (o := .tup ys) np
      exact q _ p' rows (pos o) (But.trans' B12 (But.of (Same.trans' S4 S5))) (p12.up (Same.trans' S4 S5)) (.tup upd_same (hrows.up (Same.tk S5))) (moved_iso G po ho0 hrl fun i x r eo er => hR i x r (by rw [← ol]; exact (List.getElem?_eq_some_iff.mp eo).1) eo er)
  · have hL1 : 0 < L.length := List.length_pos_iff.mpr hL
    rw [show (!L.isEmpty) = true by cases L with | nil => exact absurd rfl hL | cons _ _ => rfl]
    refine iteT ⟨_, fun σ' H' h => h, ?_⟩
    refine ⟨_, rfl, ⟨b, _, rfl, hb5⟩, _, rfl, ⟨l, _, rfl, hl5⟩, _, rfl, _, rfl, l, _, rfl, .inl hl5, p, pq, _, _, rfl, p5, by omega, by rw [nats_len]; omega, by rw [nats_len]; omega, fun H6 r6 b6 p6 r60 r61 => ?_⟩
    rw [nats_len] at r61
    obtain ⟨k, rfl⟩ := Int.eq_ofNat_of_zero_le r60
    have hk : k < L.length := by omega
    have hl6 := b6 _ _ (p5.ne hl5) hl5
    have hb6 := b6 _ _ (p5.ne hb5) hb5
    refine ⟨l, _, _, k, natV L[k], rfl, rfl, hl6, by omega, by omega, by rw [nats_len]; exact six hk, nats_at hk, ?_⟩
    have hb7 : upd H6 l (.lst ((L.map natV).eraseIdx k)) b = some (.lst (o.map natV)) := by rw [upd_ne nbl]; exact hb6
    refine ⟨b, _, natV L[k], rfl, rfl, hb7, by rw [nats_len]; exact smallT (by omega), (L.eraseIdx k).length, ?_, ⟨_, _, _, _, _, _, _, rfl⟩, fun c' u hc' e => ?_, L.eraseIdx k, o ++ [L[k]], ?_, ?_, ?_, ?_, ?_, rfl⟩
    · rw [List.length_eraseIdx_of_lt hk]
      omega
    · rw [upd_ne (ne_of_none e b0), upd_ne (ne_of_none e hl)]
      exact b6 _ _ hc' (B5 _ _ hc' e)
    · rw [upd_ne (Ne.symm nbl), upd_same, map_erase]
    · rw [upd_same, List.map_append]
      rfl
    · refine List.Perm.trans ?_ po
      rw [List.append_assoc]
      exact List.Perm.append_left _ (erase_perm (List.getElem?_eq_getElem hk))
    · rw [List.getElem?_append_left (by cases o with | nil => cases ho0 | cons _ _ => simp)]
      exact ho0
    · rw [List.length_append]
      exact ((p6.set (hp.new hl)).set (hp.new b0))
end
end JT
/-! Mat11: the least over all choices is the distance. -/
namespace JT
open PySem PySem.Spec PyProof.Rows L2 PySem.W
theorem valV_mem {κ : Type} [DecidableEq κ] : ∀ {kvs : List (κ × V)} {k : κ} {v : V}, (kvs.map (·.1)).Nodup → (k, v) ∈ kvs → valV kvs k = some v
  | [], _, _, _, h => by cases h
  | (k0, v0) :: l, k, v, nd, h => by
    rw [List.map_cons, List.nodup_cons] at nd
    rcases List.mem_cons.mp h with e | h
    · cases e
      exact valV_pos rfl
    · have : k0 ≠ k := fun z => nd.1 (by rw [z]; exact List.mem_map.mpr ⟨_, h, rfl⟩)
      rw [valV_neg this]
      exact valV_mem nd.2 h
theorem valV_mem' {κ : Type} [DecidableEq κ] : ∀ {kvs : List (κ × V)} {k : κ} {v : V}, valV kvs k = some v → (k, v) ∈ kvs
  | [], _, _, h => by cases h
  | (k0, v0) :: l, k, v, h => by
    by_cases e : k0 = k
    · rw [valV_pos e] at h
      cases h
      subst e
      simp
    · rw [valV_neg e] at h
      exact List.mem_cons_of_mem _ (valV_mem' h)
def pk (a b : Str) : List Key := [.inr a, .inr b]
theorem pk_inj {a b c d : Str} (h : pk a b = pk c d) : a = c ∧ b = d := by
  unfold pk at h
  injection h with h1 h2
  injection h2 with h2 _
  injection h1 with h1
  injection h2 with h2
  exact ⟨h1, h2⟩
/-- what two dicts of the same pairs and the same distances have alike -/
theorem distd_eq {H : Hp} {p q : Addr} {nm nm' : List Str} {F F' : Str → Str → Nat → Prop} (h : DistD H p nm F) (h' : DistD H q nm' F') (hn : ∀ a, a ∈ nm' ↔ a ∈ nm) (hu : ∀ a b m m', F a b m → F' a b m' → m = m') :
    ∃ ks ls, H p = some (.dT ks) ∧ H q = some (.dT ls) ∧ ks.length = ls.length ∧ ∀ x ∈ ks, valV ls x.1 = some x.2 ∧ flatB x.2 = true := by
  obtain ⟨ks, e1, n1, r1, a1⟩ := h
  obtain ⟨ls, e2, n2, r2, a2⟩ := h'
  have key : ∀ x ∈ ks, valV ls x.1 = some x.2 ∧ flatB x.2 = true := fun ⟨k, v⟩ hx => by
    obtain ⟨a, b, m, rfl, ha, hb, hab, rfl, f⟩ := r1 k v hx
    obtain ⟨m', hm'⟩ := a2 a b ((hn a).mpr ha) ((hn b).mpr hb) hab
    obtain ⟨a', b', m2, ek, _, _, _, ev, f'⟩ := r2 _ _ hm'
    have ek : pk a b = pk a' b' := ek
    obtain ⟨rfl, rfl⟩ := pk_inj ek
    have : m' = m2 := by
      unfold natV at ev
      injection ev with ev
      omega
    subst this
    have := hu _ _ _ _ f f'
    subst this
    exact ⟨valV_mem n2 hm', rfl⟩
  refine ⟨ks, ls, e1, e2, Nat.le_antisymm ?_ ?_, key⟩
  · have z := nodup_le n1 (m := ls.map (·.1)) fun k hk => by
      obtain ⟨⟨k', v⟩, hx, rfl⟩ := List.mem_map.mp hk
      exact List.mem_map.mpr ⟨_, valV_mem' (key _ hx).1, rfl⟩
    rw [List.length_map, List.length_map] at z
    exact z
  · have z := nodup_le n2 (m := ks.map (·.1)) fun k hk => by
      obtain ⟨⟨k', v⟩, hx, rfl⟩ := List.mem_map.mp hk
      obtain ⟨a, b, m, rfl, ha, hb, hab, rfl, f⟩ := r2 k' v hx
      obtain ⟨m', hm'⟩ := a1 a b ((hn a).mp ha) ((hn b).mp hb) hab
      exact List.mem_map.mpr ⟨_, hm', rfl⟩
    rw [List.length_map, List.length_map] at z
    exact z
/-- the dict of the least so far: S a b c: the choice c has been looked at for a and b -/
structure Due (N : Net) (kvs : List (List Key × V)) (S : Str → Str → List Nat → Prop) : Prop where
  nd : (kvs.map (·.1)).Nodup
  val : ∀ k v, (k, v) ∈ kvs → ∃ a b m, k = [.inr a, .inr b] ∧ a ∈ JT.names N ∧ b ∈ JT.names N ∧ sLt a b ∧ v = natV m ∧ (∃ c, ChOk N c ∧ Btw N (elder N c) a b m) ∧ ∀ c m', S a b c → Btw N (elder N c) a b m' → m ≤ m'
  has : ∀ a b c, S a b c → pk a b ∈ kvs.map (·.1)
theorem btw_small {N : Net} (G : Good N) {e : Nat → Nat} (E : Elder N e) {a b : Str} {m : Nat} (h : Btw N e a b m) : m ≤ 2 * N.length := by
  obtain ⟨ja, jb, i, k, x, h1, h2, u1, u2, rfl, _⟩ := h
  have l1 := (u1.dn E G (List.getElem?_eq_some_iff.mp h1).1).2
  have l2 := (u2.dn E G (List.getElem?_eq_some_iff.mp h2).1).2
  have := (List.getElem?_eq_some_iff.mp h1).1
  have := (List.getElem?_eq_some_iff.mp h2).1
  omega
theorem Due.put {N : Net} {kvs : List (List Key × V)} {S : Str → Str → List Nat → Prop} (G : Good N) (h : Due N kvs S) {a b : Str} {c : List Nat} {mB : Nat} (C : ChOk N c) (ha : a ∈ JT.names N) (hb : b ∈ JT.names N) (hab : sLt a b) (hB : Btw N (elder N c) a b mB) :
    ∃ old m : Nat, (valV kvs (pk a b)).getD (.int 99) = natV old ∧ (if (old : Int) < (mB : Int) then (old : Int) else (mB : Int)) = (m : Int) ∧ Due N (putK kvs (pk a b) (natV m)) (fun a' b' c' => S a' b' c' ∨ (a' = a ∧ b' = b ∧ c' = c)) := by
  have E := elder_ok G.toLoose C
  have h49 := G.len
  have hs := btw_small G E hB
  have uniq : ∀ m', Btw N (elder N c) a b m' → m' = mB := fun m' h' => h'.unique E G hB
  have fin : ∀ m : Nat, (∃ c, ChOk N c ∧ Btw N (elder N c) a b m) → m ≤ mB → (∀ c' m', S a b c' → Btw N (elder N c') a b m' → m ≤ m') → Due N (putK kvs (pk a b) (natV m)) (fun a' b' c' => S a' b' c' ∨ (a' = a ∧ b' = b ∧ c' = c)) := fun m hc hle hall => by
    refine ⟨nd_put _ _ h.nd, fun k v hk => ?_, fun a' b' c' hS => ?_⟩
    · have hv := valV_mem (nd_put (pk a b) (natV m) h.nd) hk
      rw [valV_put] at hv
      by_cases e : k = pk a b
      · rw [if_pos e] at hv
        cases hv
        refine ⟨a, b, m, e, ha, hb, hab, rfl, hc, fun c' m' hS hb' => ?_⟩
        rcases hS with hS | ⟨_, _, rfl⟩
        · exact hall c' m' hS hb'
        · rw [uniq m' hb']
          exact hle
      · rw [if_neg e] at hv
        obtain ⟨a', b', m', e1, e2, e3, e4, e5, e6, e7⟩ := h.val k v (valV_mem' hv)
        refine ⟨a', b', m', e1, e2, e3, e4, e5, e6, fun c' m2 hS hb' => ?_⟩
        rcases hS with hS | ⟨rfl, rfl, _⟩
        · exact e7 c' m2 hS hb'
        · exact absurd e1 e
    · rw [mem_put]
      rcases hS with hS | ⟨rfl, rfl, rfl⟩
      · exact .inr (h.has a' b' c' hS)
      · exact .inl rfl
  cases hv : valV kvs (pk a b) with
  | none =>
    have none' : ∀ c', ¬ S a b c' := fun c' hS => by
      have z := mem_keys.mp (h.has a b c' hS)
      rw [hv] at z
      cases z
    refine ⟨99, mB, rfl, ?_, fin mB ⟨c, C, hB⟩ (Nat.le_refl _) fun c' m' hS => absurd hS (none' c')⟩
    rw [if_neg (by omega)]
  | some v =>
    obtain ⟨a', b', m0, e1, e2, e3, e4, e5, ⟨c0, C0, hB0⟩, e7⟩ := h.val _ _ (valV_mem' hv)
    obtain ⟨rfl, rfl⟩ := pk_inj e1
    subst e5
    by_cases hlt : m0 < mB
    · exact ⟨m0, m0, rfl, if_pos (by omega), fin m0 ⟨c0, C0, hB0⟩ (by omega) e7⟩
    · refine ⟨m0, mB, rfl, if_neg (by omega), fin mB ⟨c, C, hB⟩ (Nat.le_refl _) fun c' m' hS hb' => ?_⟩
      have := e7 c' m' hS hb'
      omega
theorem Due.mono {N : Net} {kvs : List (List Key × V)} {S S' : Str → Str → List Nat → Prop} (h : Due N kvs S) (k : ∀ a b c, S' a b c → S a b c) : Due N kvs S' :=
  ⟨h.nd, fun x v hx => by
    obtain ⟨a, b, m, e1, e2, e3, e4, e5, e6, e7⟩ := h.val x v hx
    exact ⟨a, b, m, e1, e2, e3, e4, e5, e6, fun c m' hS => e7 c m' (k _ _ _ hS)⟩, fun a b c hS => h.has a b c (k _ _ _ hS)⟩
/-- all choices looked at: the distances -/
theorem Due.dist {N : Net} {kvs : List (List Key × V)} {S : Str → Str → List Nat → Prop} (G : Good N) (h : Due N kvs S) (hS : ∀ a b c, a ∈ JT.names N → b ∈ JT.names N → sLt a b → ChOk N c → S a b c ∧ ∃ m, Btw N (elder N c) a b m) (hd : ∀ a b, a ∈ JT.names N → b ∈ JT.names N → sLt a b → ∃ m, IsDist N a b m) {H : Hp} {p : Addr} (hp : H p = some (.dT kvs)) : DistD H p (JT.names N) (IsDist N) := by
  refine ⟨kvs, hp, h.nd, fun k v hk => ?_, fun a b ha hb hab => ?_⟩
  · obtain ⟨a, b, m, e1, e2, e3, e4, e5, ⟨c, C, hB⟩, e7⟩ := h.val k v hk
    refine ⟨a, b, m, e1, e2, e3, e4, e5, ?_⟩
    obtain ⟨d, hd⟩ := hd a b e2 e3 e4
    have l1 := hB.least (elder_ok G.toLoose C) G hd
    obtain ⟨c', C', hc'⟩ := best_choice G hd
    obtain ⟨s1, m', hm'⟩ := hS a b c' e2 e3 e4 C'
    have l2 := hc' m' hm'
    have l3 := e7 c' m' s1 hm'
    have : m = d := by omega
    rw [this]
    exact hd
  · obtain ⟨d, hd⟩ := hd a b ha hb hab
    obtain ⟨c, C, _⟩ := best_choice G hd
    obtain ⟨⟨k', v⟩, hx, e⟩ := List.mem_map.mp (h.has a b c (hS a b c ha hb hab C).1)
    have e : k' = pk a b := e
    subst e
    obtain ⟨a', b', m, e1, _, _, _, e5, _⟩ := h.val _ _ hx
    exact ⟨m, by rw [← e5]; exact hx⟩
end JT
/-! RuItems: d.items() of a dict with tuple keys. -/
namespace JT
open PySem PySem.Spec PyProof.Rows L2
theorem frzTV {X : Cx} {pins : List (Addr × Obj)} {σ : L2.St} {H : Hp} {s : Shared} {d : Addr} {o : Obj} {kvs : List (List Key × V)} (I : Inv X pins σ H s) (h : H d = some (.frz o (.dT kvs))) :
    (d == sysModules) = false ∧ s.heap.get? d = some o ∧ o.ExactDict ∧ ∃ (es : Array DictEntry) (ep : Nat), o.data = .dict es ep ∧ es.size = kvs.length ∧
      ∀ (i : Nat) (k : List Key) (v : V), kvs[i]? = some (k, v) → ∃ (en : DictEntry) (q : Addr), es[i]? = some en ∧ en.key = .ref q ∧ H q = some (.tup (k.map kV)) ∧ RelV v en.val := by
  obtain ⟨hd, z, hs, xs, pr, o', es, ep, ho, hx, hdt, he, _⟩ := I.hok d _ h
  rw [hd] at ho
  cases ho
  refine ⟨hs, hd, hx, es, ep, hdt, ?_, fun i k v e => ?_⟩
  · have l1 : es.size = xs.length := size_of_entries he
    have l2 : kvs.length = xs.length := Paired.length pr
    omega
  · obtain ⟨b, hb, e1, e2, e3⟩ := paired_get pr e
    have q := entry_at he i
    rw [hb] at q
    exact ⟨_, b.2.1, q, rfl, e2, e3⟩
/-- the pairs, each a new tuple of the key's own tuple and the value -/
def ItiT (d : Addr) (o : Obj) (kvs : List (List Key × V)) : It :=
  ⟨fun i H => H d = some (.frz o (.dT kvs)) ∧ i < kvs.length, fun i H x H' => ∃ T k v q, kvs[i]? = some (k, v) ∧ x = .ref T ∧ H T = none ∧ H q = some (.tup (k.map kV)) ∧ H' = upd H T (.tup [.ref q, v]), fun i H => H d = some (.frz o (.dT kvs)) ∧ kvs.length ≤ i⟩
section
variable {P : Program} {w : World} {K : PySem.W.Frag} {d : Addr} {o : Obj} {es : Array DictEntry} {ep : Nat}
theorem turn_itemsT {kvs : List (List Key × V)} {elts : List Expr} {kk : Nat} {tpos : Pos} (it : Addr) (hod : o.data = .dict es ep) :
    Turn P w K (.Tuple elts kk tpos) (ItiT d o kvs) [it] it (fun i h => ∃ ok ov, IsItemIter h it d i kvs.length ep ok ov) where
  mem := by simp
  obj := fun i h st b hb => by
    have e : b = it := by simpa using hb
    subst e
    obtain ⟨ok, ov, e⟩ := st
    exact ⟨_, e, fun v z => nomatch z⟩
  keep := fun i h h' st k => let ⟨ok, ov, e⟩ := st; ⟨ok, ov, k it (by simp) _ e⟩
  item := by
    intro X hP hw hK hc i pins s σ H E I hf st hg
    subst hP hw hK
    obtain ⟨hd, hi⟩ := hg
    obtain ⟨hs, hgd, hx, es', ep', hdt, hsz, ent⟩ := frzTV I hd
    obtain ⟨rfl, rfl⟩ := dict_ep hod hdt
    obtain ⟨⟨k, v⟩, hkv⟩ : ∃ p, kvs[i]? = some p := ⟨kvs[i], List.getElem?_eq_getElem hi⟩
    obtain ⟨en, q, hen, hkey, hq, hv⟩ := ent i k v hkv
    obtain ⟨ok, ov, he⟩ := st
    rw [← hsz] at he
    have hlt : it < s.heap.objs.size := Heap.lt_size he
    have hi' : i < es'.size := by omega
    have een : es'[i] = en := by
      rw [Array.getElem?_eq_getElem hi'] at hen
      exact Option.some.inj hen
    refine wpAny_pyNext_items_item_raw he ⟨o, hgd, hx, hdt⟩ hi' fun h' ho hT hz hk => ?_
    rw [een, hkey] at ho hT
    refine ⟨_, rfl, wpAny_letOwnedTupleGo_items (s := { s with heap := h' }) ho fun h'' he' sb => ?_⟩
    have hT2 : h''.get? s.heap.objs.size = some { cls := .type "tuple", data := .seq #[.ref q, en.val] } := (sb.2 _ (Nat.ne_of_gt hlt)).trans hT
    have new : ObjOk X.prog X.w (upd H s.heap.objs.size (.tup [.ref q, v])) h'' s.heap.objs.size (.tup [.ref q, v]) :=
      ⟨by show 2 ≤ sizeLine; decide, [.ref q, en.val], .cons rfl (.cons hv .nil), ⟨_, hT2, rfl, _, rfl⟩⟩
    have I1 : Inv X pins σ (upd H s.heap.objs.size (.tup [.ref q, v])) { s with heap := h'' } :=
      I.turnedNew (t' := s.toks) (ch := [it]) (fun b ob hb e => (sb.2 b (by simpa using hb)).trans (hk b ob (by simpa using hb) e)) hf (Nat.le_refl _) new
    refine ⟨.ref s.heap.objs.size, _, I1, rfl, ⟨_, k, v, q, hkv, rfl, I.hok.fresh (Nat.le_refl _), hq, rfl⟩, ⟨.ref q, en.val, ?_⟩, fun b hb => ?_⟩
    · rw [← hsz]; exact he'
    · have e : b = it := by simpa using hb
      rw [e, upd_ne (Nat.ne_of_lt hlt)]
      exact (hf it (by simp)).1
  done := by
    intro X hP hw hK hc i pins s σ H E I hf st hg
    subst hP hw hK
    obtain ⟨hd, hi⟩ := hg
    obtain ⟨f0, f1, f2, f3, f4, f5⟩ := hf it (by simp)
    obtain ⟨hs, hgd, hx, es', ep', hdt, hsz, ent⟩ := frzTV I hd
    obtain ⟨rfl, rfl⟩ := dict_ep hod hdt
    obtain ⟨ok, ov, he⟩ := st
    rw [← hsz] at he
    exact wpAny_pyNext_items_end_raw (I.ok.hd hc) he ⟨o, hgd, hx, hdt⟩ (by omega) fun h' eb => ⟨rfl, I.turned (t' := s.toks) (fun b ob hb e => eb b ob hb e) f0 f1 f3 f4 f5⟩
  self := fun A i s Q E st h => let ⟨_, _, e⟩ := st; PySem.W.kcp_self e h
end
def iItemsT (td : TE) : TI := fun σ H R => td σ H fun x H1 => ∃ d o kvs, x = .ref d ∧ H1 d = some (.frz o (.dT kvs)) ∧ R (ItiT d o kvs) H1
theorem pi_itemsT {X : Cx} {e : Expr} {td : TE} {apos cpos : Pos} {elts : List Expr} {kk : Nat} {tpos : Pos} (he : PE X e td) (hbase : attributeBase e "items" X.env (eval e X.env) = eval e X.env := by rfl) (hline : (apos.endLine == cpos.line) = true := by rfl) :
    PI X (.Tuple elts kk tpos) (.Call (.Attribute e "items" apos) [] [] cpos) (iItemsT td) := by
  refine ⟨fun pins s σ H R I h => ?_⟩
  refine wpAny_Call_method (T := "dict") (id := "dict.items") hbase rfl hline F.plainAttrs_dict F.slot_dict_items F.type_dict_items (thn (he.run pins s σ H _ I h) fun u s1 ⟨x, H1, I1, rx, d, o, kvs, ex, hd, q⟩ => ?_)
  subst ex
  obtain rfl : u = Value.ref d := rx
  obtain ⟨hs, hgd, hx, es, ep, hdt, hsz, ent⟩ := frzTV I1 hd
  have raw : s1.heap.DictRaw d es ep := ⟨o, hgd, hx, hdt⟩
  refine ⟨raw.typeIs, ?_, ?_⟩
  · exact fun b e' => by cases e'; exact ⟨o, hgd, hx.2.1⟩
  have I2 : Inv X pins σ H1 { s1 with heap := s1.heap.push { cls := .type "dict_items", data := .fields #[.ref d] } } := I1.kept (t' := s1.toks) fun b ob q => Heap.get?_push_of_some _ q
  have fin : wpAny (model X.prog X.w) X.A (pyIter (.ref s1.heap.objs.size)) (PIE X pins σ (.Tuple elts kk tpos) R) X.xe { s1 with heap := s1.heap.push { cls := .type "dict_items", data := .fields #[.ref d] } } := by
    refine wpAny_pyIter_items_raw (d := d) (es := es) (ep := ep) ⟨_, Heap.get?_push_size _ rfl, rfl, rfl⟩ (raw.at fun o' e => Heap.get?_push_of_some _ e) (pi_one (tk := s1.toks) I2 _ (turn_itemsT _ hdt) ⟨.none, .none, ?_⟩ q)
    rw [← hsz]
    exact Heap.get?_push_size _ rfl
  show wpAny _ _ (callWith cpos (.builtin "dict.items") [.ref d] [] []) _ X.xe s1
  exact method_meetsIn F.slot_dict_items F.entry_dict_items rfl (PySem.evalArgs_none ⟨rfl, raw.typeIs, F.args_dict_items_1 _, _, meets_dict_items_raw d hs, ⟨es, ep, raw⟩, fin⟩)
end JT
/-! RuItems2: the items of a new dict with tuples for keys; the dict stays locked. -/
namespace JT
open PySem PySem.Spec PyProof.Rows L2 PySem.W
def iItemsTL (td : TE) : TI := fun σ H R => td σ H fun x H1 => ∃ d kvs, x = .ref d ∧ H1 d = some (.dT kvs) ∧ ∀ o, R (ItiT d o kvs) (upd H1 d (.frz o (.dT kvs)))
theorem pi_itemsTL {X : Cx} {e : Expr} {td : TE} {apos cpos : Pos} {elts : List Expr} {kk : Nat} {tpos : Pos} (he : PE X e td) (hbase : attributeBase e "items" X.env (eval e X.env) = eval e X.env := by rfl) (hline : (apos.endLine == cpos.line) = true := by rfl) :
    PI X (.Tuple elts kk tpos) (.Call (.Attribute e "items" apos) [] [] cpos) (iItemsTL td) := by
  refine ⟨fun pins s σ H R I h => ?_⟩
  refine wpAny_Call_method (T := "dict") (id := "dict.items") hbase rfl hline F.plainAttrs_dict F.slot_dict_items F.type_dict_items (thn (he.run pins s σ H _ I h) fun u s1 ⟨x, H0, I0, rx, d, kvs, ex, hd0, q0⟩ => ?_)
  subst ex
  obtain rfl : u = Value.ref d := rx
  obtain ⟨o, I1⟩ := I0.lock hd0 trivial
  have q := q0 o
  have hd : upd H0 d (.frz o (.dT kvs)) d = some (.frz o (.dT kvs)) := upd_same
  generalize upd H0 d (.frz o (.dT kvs)) = H1 at I1 q hd
  obtain ⟨hs, hgd, hx, es, ep, hdt, hsz, ent⟩ := frzTV I1 hd
  have raw : s1.heap.DictRaw d es ep := ⟨o, hgd, hx, hdt⟩
  refine ⟨raw.typeIs, ?_, ?_⟩
  · exact fun b e' => by cases e'; exact ⟨o, hgd, hx.2.1⟩
  have I2 : Inv X pins σ H1 { s1 with heap := s1.heap.push { cls := .type "dict_items", data := .fields #[.ref d] } } := I1.kept (t' := s1.toks) fun b ob q => Heap.get?_push_of_some _ q
  have fin : wpAny (model X.prog X.w) X.A (pyIter (.ref s1.heap.objs.size)) (PIE X pins σ (.Tuple elts kk tpos) R) X.xe { s1 with heap := s1.heap.push { cls := .type "dict_items", data := .fields #[.ref d] } } := by
    refine wpAny_pyIter_items_raw (d := d) (es := es) (ep := ep) ⟨_, Heap.get?_push_size _ rfl, rfl, rfl⟩ (raw.at fun o' e => Heap.get?_push_of_some _ e) (pi_one (tk := s1.toks) I2 _ (turn_itemsT _ hdt) ⟨.none, .none, ?_⟩ q)
    rw [← hsz]
    exact Heap.get?_push_size _ rfl
  show wpAny _ _ (callWith cpos (.builtin "dict.items") [.ref d] [] []) _ X.xe s1
  exact method_meetsIn F.slot_dict_items F.entry_dict_items rfl (PySem.evalArgs_none ⟨rfl, raw.typeIs, F.args_dict_items_1 _, _, meets_dict_items_raw d hs, ⟨es, ep, raw⟩, fin⟩)
end JT
/-! RuEqDT: != of two dicts with tuple keys that hold the same. -/
namespace JT
open PySem PySem.Spec PyProof.Rows L2
section
variable {prog : Program} {w : World} {κ : Type} [DecidableEq κ] {knd : HeapKind prog w κ} {A : Around} {E : Value → Shared → Prop} {s : Shared}
theorem samePairsH {nm : String} {a b : Addr} {ka kb : List (κ × Addr × Value)} {Q : Bool → Shared → Prop} (hu : knd.room A) (ha : (a == sysModules) = false) (hb : (b == sysModules) = false)
    (da : s.heap.DictOfH knd a ka) (db : s.heap.DictOfH knd b kb) (hl : ka.length = kb.length)
    (hits : ∀ (i : Nat) (k : κ) (p : Addr × Value), ka[i]? = some (k, p) → (∃ (j : Nat) (q : Addr × Value), kb[j]? = some (k, q)) ∧ ∀ (j : Nat) (q : Addr × Value), kb[j]? = some (k, q) → SeqAt.EqAt A s p.2 q.2 true) (h : Q true s) :
    wpAny (model prog w) A (Builtin.Dict.samePairs nm a b) Q E s := by
  obtain ⟨oa, es, ep, hoa, _, hda, hka, hpa, nda⟩ := da
  obtain ⟨ob, es', ep', hob, _, hdb, hkb, hpb, ndb⟩ := db
  have hla : ka.length = es.size := (size_of_entries hka).symm
  have hlb : kb.length = es'.size := (size_of_entries hkb).symm
  unfold Builtin.Dict.samePairs Builtin.Dict.showsAll
  rw [if_neg (show ¬ (a == sysModules) = true by rw [ha]; exact Bool.false_ne_true), if_neg (show ¬ (b == sysModules) = true by rw [hb]; exact Bool.false_ne_true)]
  refine wpAny_bind (wpAny_pure (wpAny_bind (wpAny_pure ?_)))
  refine wpAny_bind (wpAny_dictEntries hoa hda ?_)
  dsimp only
  refine wpAny_bind (wpAny_dictEntries hob hdb ?_)
  have hsz : es.size = es'.size := by omega
  rw [if_neg (by rw [hsz]; simp)]
  refine wpAny_bind (wpAny_dictEpoch hoa hda ?_)
  refine wpAny_bind ?_
  rw [Std.Legacy.Range.forIn_eq_forIn_range']
  simp only [Std.Legacy.Range.size, Nat.sub_zero, Nat.add_sub_cancel, Nat.div_one]
  refine wpAny_forIn_list _
    (fun rest q s' => s' = s ∧ q = (none, ()) ∧ ∃ i, rest = List.range' i (es.size - i) ∧ i ≤ es.size)
    _ ?_ ?_ _ _ ⟨rfl, rfl, 0, by simp, Nat.zero_le _⟩
  · rintro x rest q s' ⟨rfl, rfl, i, hr, hi⟩
    have hlt : i < es.size := by
      rcases Nat.lt_or_ge i es.size with h | h
      · exact h
      · rw [Nat.sub_eq_zero_of_le h] at hr; simp at hr
    obtain ⟨rfl, hrest⟩ : x = i ∧ rest = List.range' (i + 1) (es.size - (i + 1)) := by
      have e : es.size - i = (es.size - (i + 1)) + 1 := by omega
      rw [e, List.range'_succ] at hr
      injection hr with h1 h2
      exact ⟨h1, h2⟩
    refine wpAny_bind (wpAny_dictEntries hoa hda ?_)
    have hlt' : x < ka.length := by rw [hla]; exact hlt
    obtain ⟨k, p, hkv⟩ : ∃ k p, ka[x]? = some (k, p) := ⟨ka[x].1, ka[x].2, List.getElem?_eq_getElem hlt'⟩
    have een : es[x]? = some (entryOfKey knd (k, p)) := by rw [entry_at hka, hkv]; rfl
    obtain ⟨⟨j0, q0, hj0⟩, heq⟩ := hits x k p hkv
    have isk := hpa _ (List.mem_of_getElem? hkv)
    rw [een]
    show wpAny _ _ (holding [Value.ref p.1, p.2] _ >>= _) _ _ _
    refine wpAny_bind (wpAny_holding (wpAny_bind (wpAny_dictFind_heap hu isk hob hdb hkb (fun x hx => hpb x hx) ndb (fun z => absurd hj0 (z j0 q0)) fun j q hj => ?_)))
    have enj : es'[j]? = some (entryOfKey knd (k, q)) := by rw [entry_at hkb, hj]; rfl
    refine wpAny_bind (wpAny_dictEntries hob hdb ?_)
    rw [enj]
    refine wpAny_holding (heq j q hj prog w _ _ ?_)
    show wpAny _ _ (if (!true) = true then _ else _) _ _ _
    rw [if_neg (by decide)]
    refine wpAny_bind (wpAny_dictEpoch hoa hda ?_)
    rw [if_neg (by simp)]
    exact wpAny_pure ⟨rfl, rfl, x + 1, hrest, hlt⟩
  · rintro q s' ⟨rfl, rfl, i, hr, hi⟩
    refine wpAny_pure ?_
    exact h
theorem dneH {a b : Addr} {ka kb : List (κ × Addr × Value)} {Q : Value → Shared → Prop} (hr : knd.room A.in1) (ha : (a == sysModules) = false) (hb : (b == sysModules) = false)
    (da : s.heap.DictOfH knd a ka) (db : s.heap.DictOfH knd b kb) (hu : A.units < cLine) (hl : ka.length = kb.length)
    (hits : ∀ (i : Nat) (k : κ) (p : Addr × Value), ka[i]? = some (k, p) → (∃ (j : Nat) (q : Addr × Value), kb[j]? = some (k, q)) ∧ ∀ (j : Nat) (q : Addr × Value), kb[j]? = some (k, q) → SeqAt.EqAt A.in1 s p.2 q.2 true) (h : Q (.bool false) s) :
    wpAny (model prog w) A (compareOp .NotEq (.ref a) (.ref b)) Q E s := by
  refine wpAny_richCompare_same_room (op := .NotEq) da.typeIs db.typeIs PySem.F.slot_dict_ne (wpAny_call_entry PySem.F.slot_dict_ne da.typeIs PySem.F.entry_dict_ne ?_ (PySem.F.args_dict_ne_2 _ _)) hu
  show wpAny _ _ (Builtin.Dict.dictSlotArgs "__ne__" ⟨[.ref a, .ref b], []⟩ >>= _) _ _ s
  refine wpAny_bind ?_
  unfold Builtin.Dict.dictSlotArgs
  refine wpAny_bind (wpAny_notOrdered_dict da.typeIs ?_)
  show wpAny _ _ (pure (Value.ref a, Value.ref b)) _ _ s
  refine wpAny_pure ?_
  refine wpAny_bind (wpAny_isInstance (T := "dict") db.typeIs PySem.F.sub_dict_dict ?_)
  simp only [Bool.not_true, Bool.false_eq_true, if_false]
  refine wpAny_bind (wpAny_pure (wpAny_bind (wpAny_pure ?_)))
  refine wpAny_bind (samePairsH hr ha hb da db hl hits ?_)
  refine wpAny_pure ⟨_, rfl, ?_, ?_⟩
  · exact fun x => nomatch x
  · exact h
end
section
variable {X : Cx}
def rNeDT : R2 := fun x y H Q => ∃ a b ks ls, x = .ref a ∧ y = .ref b ∧ H a = some (.dT ks) ∧ H b = some (.dT ls) ∧ ks.length = ls.length ∧ (∀ p ∈ ks, valV ls p.1 = some p.2 ∧ flatB p.2 = true) ∧ Q (.bl false) H
theorem op_ne_dT (hu : X.A.units + 1 < cLine) : OpR X (compareOp .NotEq) rNeDT := by
  intro pins s σ H x y v u Q I rx ry h
  obtain ⟨a, b, ks, ls, rfl, rfl, ea, eb, hlen, hp, q⟩ := h
  obtain rfl : v = Value.ref a := rx
  obtain rfl : u = Value.ref b := ry
  obtain ⟨_, ya, va, ra, da⟩ := dt_of I.hok ea
  obtain ⟨_, yb, vb, rb, db⟩ := dt_of I.hok eb
  have hl : va.length = vb.length := by rw [← Paired.length ra, ← Paired.length rb]; exact hlen
  refine dneH (tupleKind_room_in1 hu) ya yb da db (Nat.lt_of_succ_lt hu) hl (fun i k p hi => ?_) (fin_bl I q rfl)
  obtain ⟨b', hb'⟩ : ∃ b', ks[i]? = some b' := by
    have l1 := Paired.length ra
    have h2 := (List.getElem?_eq_some_iff.mp hi).1
    exact ⟨ks[i]'(by omega), List.getElem?_eq_getElem _⟩
  obtain ⟨z, hz, e1, e2, e3⟩ := paired_get ra hb'
  rw [hi] at hz
  cases hz
  obtain ⟨hv, hf⟩ := hp b' (List.mem_of_getElem? hb')
  have rr : RelO (some b'.2) ((atKey vb k).map (·.2)) := by rw [← hv, e1]; exact rb.val k
  obtain ⟨y, hy, ry⟩ := rr.some_of
  obtain ⟨p', hp', hp2⟩ := Option.map_eq_some_iff.mp hy
  obtain ⟨_, _, _, _, _, _, _, _, ndb⟩ := db
  refine ⟨?_, fun j q hj => ?_⟩
  · unfold atKey at hp'
    obtain ⟨x0, hx0, ex⟩ := Option.map_eq_some_iff.mp hp'
    have hk := List.find?_some hx0
    obtain ⟨j, hj⟩ := List.mem_iff_getElem?.mp (List.mem_of_find?_eq_some hx0)
    refine ⟨j, x0.2, ?_⟩
    rw [hj]
    have : x0.1 = k := of_decide_eq_true hk
    rw [← this]
  · have := atKey_of_get ndb hj
    rw [this] at hp'
    cases hp'
    rw [hp2]
    exact eqAt_same e3 ry hf
end
end JT
/-! A12: all of one net is right. -/
namespace JT
open PySem PySem.Spec PyProof.Rows L2 PySem.W
abbrev s__law_right : Stmt := topS 77
abbrev n__law_right : List Str := ["_law_pen_here", "_law_net_here", "_law_due", "_law_choice", "_law_pair", "_law_many", "_law_tree_here", "_law_plain", "_law_near"]
theorem sc__law_right : FnScope n__law_right ["_law_pen_here", "_law_net_here"] (defScope s__law_right) :=
  ⟨rfl, rfl, rfl, by decide +kernel, rfl, by decide +kernel, by decide +kernel⟩
section
variable {P : Program} {w : World} {K : PySem.W.Frag} {mg : Str → Option Value} {base : Heap}
theorem TabsBut {T : List (Addr × Str)} {p : Addr} {H H' : Hp} (t : LamX.Tabs T H) (b : But p H H') (hp : ∃ o, H p = some (.dK o)) : LamX.Tabs T H' := fun x hx => by
  obtain ⟨ps, h1, h2, h3⟩ := t x hx
  obtain ⟨o, hp⟩ := hp
  refine ⟨ps, b _ _ (fun z => by rw [z, hp] at h1; cases h1) h1, h2, fun pos cv hc => ?_⟩
  obtain ⟨c, e, h⟩ := h3 pos cv hc
  exact ⟨c, e, b _ _ (fun z => by
    rw [z, hp] at h
    have h := Option.some.inj h
    unfold LamX.CodeO at h
    cases h) h⟩
theorem PenAt.ext {H H' : Hp} {p q : Addr} {n : Nat} (h : PenAt H p q n) (S : LamX.ExtN H H') : PenAt H' p q n := by
  obtain ⟨a, l, cs, h1, h2, h3⟩ := h
  exact ⟨a, l, cs, S _ _ h1 (fun _ z => by cases z), S _ _ h2 (fun _ z => by cases z), h3⟩
theorem prod_len (f : Str → Str → List Key) (m : List Str) : ∀ l : List Str, (l.flatMap fun a => m.map (f a)).length = l.length * m.length
  | [] => by simp
  | a :: l => by
    rw [List.flatMap_cons, List.length_append, prod_len f m l, List.length_map, List.length_cons, Nat.succ_mul]
    omega
theorem Due.small {N : Net} {kvs : List (List Key × V)} {S : Str → Str → List Nat → Prop} (G : Loose N) (h : Due N kvs S) : kvs.length ≤ 100 := by
  have z := nodup_le h.nd (m := (JT.names N).flatMap fun a => (JT.names N).map (pk a)) fun k hk => by
    obtain ⟨⟨k', v⟩, hx, rfl⟩ := List.mem_map.mp hk
    obtain ⟨a, b, m, e1, e2, e3, _⟩ := h.val k' v hx
    exact List.mem_flatMap.mpr ⟨a, e2, List.mem_map.mpr ⟨b, e3, e1.symm⟩⟩
  rw [List.length_map, prod_len] at z
  have f := G.few
  have : (JT.names N).length * (JT.names N).length ≤ 10 * 10 := Nat.mul_le_mul f f
  omega
theorem DistD.get {H : Hp} {p : Addr} {nm : List Str} {F : Str → Str → Nat → Prop} (h : DistD H p nm F) {a b : Str} (ha : a ∈ nm) (hb : b ∈ nm) (hab : sLt a b) : ∃ kvs m, H p = some (.dT kvs) ∧ valV kvs (pk a b) = some (natV m) ∧ F a b m := by
  obtain ⟨kvs, e, nd, r, al⟩ := h
  obtain ⟨m, hm⟩ := al a b ha hb hab
  obtain ⟨a', b', m', ek, _, _, _, ev, f⟩ := r _ _ hm
  have ek : pk a b = pk a' b' := ek
  obtain ⟨rfl, rfl⟩ := pk_inj ek
  have : m = m' := by
    unfold natV at ev
    injection ev with ev
    omega
  subst this
  exact ⟨kvs, m, e, valV_mem nd hm, f⟩
theorem DistD.keep {H H' : Hp} {p : Addr} {nm : List Str} {F : Str → Str → Nat → Prop} (h : DistD H p nm F) (k : ∀ o, H p = some o → (∀ ps, o ≠ .tbl ps) → H' p = some o) : DistD H' p nm F := by
  obtain ⟨kvs, e, r⟩ := h
  exact ⟨kvs, k _ e (fun _ z => by cases z), r⟩
theorem encC_nil {H : Hp} {a : Addr} (h : H a = some (.tup [])) : DT H (.ref a) (encC []) := .tup h .nil
def spLRight (PT : Addr) : Sp := fun vs H Q _ => ∃ (p pq : Addr) (v : V) (c : Nat) (N : Net), vs = [.ref p, v] ∧ PenAt H p pq c ∧ c + 200 ≤ 100000 ∧ DT H v (encN N) ∧ Good N ∧ N.length ≤ 39 ∧ LamX.Tabs (lamT PT) H ∧
  ∀ H', PenAt H' p pq (c + 50) → LamX.Tabs (lamT PT) H' → Q (.bl true) H'
theorem c__law_right {PT : Addr} (T : Top mg) (D : Def K mg "_law_right" "_law_right" s__law_right) (C__law_choices : Cal P w K mg base 2 "_law_choices" spChoices) (C__law_between : Cal P w K mg base 3 "_law_between" spBetween) (C_distances : Cal P w K mg base 3 "distances" spDist) (C_net_of : Cal P w K mg base 7 "net_of" (spNetOf PT)) (C__law_moved_rows : Cal P w K mg base 2 "_law_moved_rows" spLMoved) (C_shown : Cal P w K mg base 47 "shown" spShown) (C_net_of_tree : Cal P w K mg base 15 "net_of_tree" (spNetOfTree PT)) : Cal P w K mg base 48 "_law_right" (spLRight PT) := by
  have C__law_choices := C__law_choices.mono (show 2 ≤ 47 by decide)
  have C__law_between := C__law_between.mono (show 3 ≤ 47 by decide)
  have C_distances := C_distances.mono (show 3 ≤ 47 by decide)
  have C_net_of := C_net_of.mono (show 7 ≤ 47 by decide)
  have C__law_moved_rows := C__law_moved_rows.mono (show 2 ≤ 47 by decide)
  have C_net_of_tree := C_net_of_tree.mono (show 15 ≤ 47 by decide)
  refine D.cal sc__law_right (fun _ _ _ _ _ _ us hl => match us, hl with | [_, _], _ => rfl) (fun vs H Q E h => ?_) fun f cdv A outer s H vs Q E hr hsp => ?_
  · obtain ⟨_, _, _, _, _, rfl, _⟩ := h; rfl
  have hu := hu_of hr
  have hu64 := hu64_of hr
  refine ⟨_, (pss_cons (ps_set (i := 2) sc__law_right.nd rfl (Or.inr rfl) pe_dnewT)
    (pss_cons (ps_for PassesOwn.never rfl (pi_listK K (pe_f C__law_choices hr rfl (pa_cons (pv 1) pa_nil))) (pg_name (i := 3) sc__law_right.nd rfl (Or.inl rfl))
    (pss_one (ps_for PassesOwn.never rfl (pi_itemsTL (pe_f C__law_between hr rfl (pa_cons (pv 1) (pa_cons (pv 3) pa_nil)))) (pgt (n := 2) rfl (pgs_cons (pg_name (i := 4) sc__law_right.nd rfl (Or.inl rfl)) (pgs_cons (pg_name (i := 5) sc__law_right.nd rfl (Or.inl rfl)) pgs_nil)))
    (pss_one (ps_dput hu (pv 2) (pv 4) (pe_callB (call_min2 rfl) rfl T.min (by decide +kernel) (pa_cons (pv 5) (pa_cons (pe_dget2 hu (pv 2) (pv 4) pe_int ⟨rfl, rfl, rfl, rfl⟩) pa_nil))) rfl)))))
    (pss_cons (ps_if (PW.pt (pw_or (pt_cmpR (op_ne_dT hu) (pe_f C_distances hr rfl (pa_cons (pv 1) pa_nil)) (pv 2) (nomark _)) (pw_or1 (pt_cmpR (op_ne_dT hu) (pe_f C_distances hr rfl (pa_cons (pe_f C_net_of hr rfl (pa_cons (pe_f C__law_moved_rows hr rfl (pa_cons (pv 0) (pa_cons (pv 1) pa_nil))) pa_nil)) pa_nil)) (pv 2) (nomark _))))) (pss_one (ps_ret pe_bl)) pss_nil)
    (pss_cons (ps_for PassesOwn.never rfl (pi_listK K (pe_slice sll (pe_f C_shown hr rfl (pa_cons (pv 1) pa_nil)) po_none (po_some pe_int))) (pgt (n := 2) rfl (pgs_cons (pg_name (i := 6) sc__law_right.nd rfl (Or.inl rfl)) (pgs_cons (pg_name (i := 3) sc__law_right.nd rfl (Or.inl rfl)) pgs_nil)))
    (pss_cons (ps_set (i := 7) sc__law_right.nd rfl (Or.inr rfl) (pe_f C_net_of_tree hr rfl (pa_cons (pv 6) pa_nil)))
    (pss_cons (ps_if (pt_cmpR (op_ne_dT hu) (pe_f C_distances hr rfl (pa_cons (pv 7) pa_nil)) (pe_f C__law_between hr rfl (pa_cons (pv 7) (pa_cons (pe_tup pa_nil) pa_nil))) (nomark _)) (pss_one (ps_ret pe_bl)) pss_nil)
    (pss_cons (ps_set (i := 8) sc__law_right.nd rfl (Or.inr rfl) (pe_f C__law_between hr rfl (pa_cons (pv 1) (pa_cons (pv 3) pa_nil))))
    (pss_one (ps_if (pt_cmpR (ned hu64) (pe_lock (pe_lc (own := [("_law_pair", 4)]) (g := gName 4) rfl sc__law_right.nd (pi_keys (pv 8)) (blkOk_by (own := [("_law_pair", 4)]) (N := n__law_right) (sc := defScope s__law_right) (by decide +kernel)) (fun _ _ _ _ _ => (pg_name (i := 4) sc__law_right.nd rfl (Or.inl rfl))) (fun _ _ _ _ _ => (pts_one (PW.pt (pw_or (pt_cmpR op_lt (pe_dget hu (pv 8) (pv 4) (fun _ _ => rfl)) (pe_dget hu (pv 2) (pv 4) (fun _ _ => rfl)) (nomark _)) (pw_or1 (pt_cmpR op_lt (pe_dget hu (pv 8) (pv 4) (fun _ _ => rfl)) (pe_dget hu (pe_f C_distances hr rfl (pa_cons (pv 7) pa_nil)) (pv 4) (fun _ _ => rfl)) (nomark _))))))) (fun _ _ _ _ _ => (pv 4)))) (pe_lst pa_nil) (nomark _)) (pss_one (ps_ret pe_bl)) pss_nil))))))
    (pss_one (ps_ret pe_bl)))))), ?_⟩
  obtain ⟨p, pq, v, c, N, rfl, hp, hc, hd, G, h39, hT, q⟩ := hsp
  have h6 := G.jfew
  refine fun dd hdd => ?_
  have S1 := same_upd (o := .dT []) hdd
  have hdd1 : upd H dd (.dT []) dd = some (.dT []) := upd_same
  have ndp := (hp.new hdd).1
  generalize upd H dd (.dT []) = H1 at S1 hdd1 ⊢
  refine ⟨_, rfl, v, N, rfl, hd.up (Same.tk S1), by omega, h6, fun H2 cl xs S2 hcl hxs => ⟨cl, rfl, ⟨_, sl_at hcl⟩, ?_⟩⟩
  have hdd2 := S2 _ _ hdd1
  have S02 := Same.trans' S1 S2
  have xl : xs.length = (allBits (JT.joins N).length).length := by rw [hxs.length, List.length_map]
  have ncl : cl ≠ dd := fun z => by rw [z, hdd2] at hcl; cases hcl
  let S0 : Nat → Str → Str → List Nat → Prop := fun i a b c => a ∈ JT.names N ∧ b ∈ JT.names N ∧ sLt a b ∧ c ∈ (allBits (JT.joins N).length).take i
  have d02 : Due N [] (S0 0) := ⟨by simp, by simp, fun a b c h => by
    have := h.2.2.2
    simp at this⟩
  refine for_gen (n := xs.length) (fun i σ H3 => (∃ s3 s4 s5 s6 s7 s8, σ = [some (.ref p), some v, some (.ref dd), s3, s4, s5, s6, s7, s8]) ∧ But dd H2 H3 ∧ ∃ kvs, H3 dd = some (.dT kvs) ∧ Due N kvs (S0 i) ∧ ∀ c ∈ (allBits (JT.joins N).length).take i, ∀ a b, a ∈ JT.names N → b ∈ JT.names N → sLt a b → ∃ m, Btw N (elder N c) a b m)
    ⟨⟨_, _, _, _, _, _, rfl⟩, But.rfl', [], hdd2, d02, by simp⟩ (fun i σ H3 hi ⟨_, B, _⟩ => go_lst (B _ _ ncl hcl) hi) (fun σ H3 ⟨_, B, _⟩ => st_lst (B _ _ ncl hcl) (Nat.le_refl _)) (fun i σ H3a x H3 hi ⟨⟨s3, s4, s5, s6, s7, s8, es⟩, B3, kvs, hk3, D3, hB3⟩ hy => ?_) fun σ H3 ⟨⟨s3, s4, s5, s6, s7, s8, es⟩, B3, kvs, hk3, D3, hB3⟩ => ?_
  · subst es
    obtain ⟨rfl, hx⟩ := hy
    have hx := hx _ (sl_at (B3 _ _ ncl hcl))
    obtain ⟨de, ed, hdx⟩ := hxs.get hx
    rw [List.getElem?_map] at ed
    obtain ⟨ch, ec, rfl⟩ := Option.map_eq_some_iff.mp ed
    have hcm := mem_allBits.mp (List.mem_of_getElem? ec)
    have C : ChOk N ch := ⟨hcm.1, hcm.2⟩
    have tk3 : TK H2 H3 := fun b u e t => B3 b u (fun z => by
      subst z
      rw [hdd2] at e
      cases e
      exact no_dT t) e
    have hd3 : DT H3 v (encN N) := (hd.up (Same.tk S02)).up tk3
    refine ⟨_, rfl, _, rfl, v, x, N, ch, rfl, hd3, hdx.up tk3, G, C, fun H4 d4 S4 d40 hB => ?_⟩
    obtain ⟨kvsB, e4, n4, r4, a4⟩ := id hB
    refine ⟨d4, kvsB, rfl, e4, fun od => ?_⟩
    have nd4 : dd ≠ d4 := fun z => by rw [← z, hk3] at d40; cases d40
    have htk : (allBits (JT.joins N).length).take (i + 1) = (allBits (JT.joins N).length).take i ++ [ch] := by rw [List.take_add_one, ec]; rfl
    refine for_gen (n := kvsB.length) (fun j σ H5 => (∃ s4 s5, σ = [some (.ref p), some v, some (.ref dd), some x, s4, s5, s6, s7, s8]) ∧ (∀ b o, b ≠ dd → b ≠ d4 → H4 b = some o → H5 b = some o) ∧ H5 d4 = some (.frz od (.dT kvsB)) ∧ ∃ kvs, H5 dd = some (.dT kvs) ∧ Due N kvs (fun a b c => S0 i a b c ∨ (c = ch ∧ pk a b ∈ (kvsB.take j).map (·.1))))
      ⟨⟨_, _, rfl⟩, fun b o h1 h2 e => by rw [upd_ne h2]; exact e, upd_same, kvs, by rw [upd_ne nd4]; exact S4 _ _ hk3, D3.mono fun a b c h => by simpa using h⟩ (fun j σ H5 hj ⟨_, _, h, _⟩ => ⟨h, hj⟩) (fun σ H5 ⟨_, _, h, _⟩ => ⟨h, Nat.le_refl _⟩) (fun j σ H5 y H6 hj ⟨⟨s4, s5, es⟩, B5, hz5, kvs5, hk5, D5⟩ hy => ?_) fun σ H5 ⟨⟨s4, s5, es⟩, B5, hz5, kvs5, hk5, D5⟩ => ?_
    · subst es
      obtain ⟨Ta, k, u, qa, hkv, rfl, hTa, hqa, rfl⟩ := hy
      obtain ⟨a, b, mB, rfl, ha, hb, hab, rfl, hBm⟩ := r4 k u (List.mem_of_getElem? hkv)
      obtain ⟨old, m, hold, hm, D6⟩ := D5.put G C ha hb hab hBm
      have S6 := same_upd (o := .tup [.ref qa, natV mB]) hTa
      have hk6 := S6 _ _ hk5
      have hq6 := S6 _ _ hqa
      refine ⟨Ta, _, rfl, upd_same, rfl, _, _, rfl, _, _, rfl, rfl, ?_⟩
      have hz6 := S6 _ _ hz5
      have B6 : ∀ b o, b ≠ dd → b ≠ d4 → H4 b = some o → upd H5 Ta (.tup [.ref qa, natV mB]) b = some o := fun b o h1 h2 e => S6 _ _ (B5 b o h1 h2 e)
      generalize upd H5 Ta (.tup [.ref qa, natV mB]) = H6 at S6 hk6 hq6 hz6 B6 ⊢
      refine ⟨_, rfl, _, rfl, dd, rfl, .inr ⟨_, .inl hk6⟩, _, rfl, _, DGet.t hk6 hq6, ?_⟩
      rw [show (valV kvs5 [Sum.inr a, Sum.inr b]).getD (V.int 99) = natV old from hold]
      refine ⟨(mB : Int), (old : Int), rfl, ?_⟩
      rw [hm]
      have ksm := D5.small G.toLoose
      refine ⟨_, rfl, _, rfl, dd, _, rfl, DPut.t hk6 hq6 (smallT (by omega)), ⟨_, _, rfl⟩, fun b o h1 h2 e => by rw [upd_ne h1]; exact B6 b o h1 h2 e, by rw [upd_ne (Ne.symm nd4)]; exact hz6, _, upd_same, D6.mono fun a' b' c' h => ?_⟩
      rcases h with h | ⟨h1, h2⟩
      · exact .inl (.inl h)
      · have et : kvsB.take (j + 1) = kvsB.take j ++ [([Sum.inr a, Sum.inr b], natV mB)] := by rw [List.take_add_one, hkv]; rfl
        rw [et, List.map_append, List.mem_append] at h2
        rcases h2 with h2 | h2
        · exact .inl (.inr ⟨h1, h2⟩)
        · have : pk a' b' = pk a b := List.mem_singleton.mp h2
          obtain ⟨rfl, rfl⟩ := pk_inj this
          exact .inr ⟨rfl, rfl, h1⟩
    · subst es
      rw [List.take_length] at D5
      refine ⟨⟨_, _, _, _, _, _, rfl⟩, fun b o hb e => ?_, kvs5, hk5, D5.mono fun a b c h => ?_, fun c hc a b ha hb hab => ?_⟩
      · exact B5 b o hb (ne_of_none (B3 b o hb e) d40) (S4 _ _ (B3 b o hb e))
      · obtain ⟨ha, hb, hab, hc⟩ := h
        rw [htk, List.mem_append, List.mem_singleton] at hc
        rcases hc with hc | hc
        · exact .inl ⟨ha, hb, hab, hc⟩
        · obtain ⟨m, hm⟩ := a4 a b ha hb hab
          exact .inr ⟨hc, List.mem_map.mpr ⟨_, hm, rfl⟩⟩
      · rw [htk, List.mem_append, List.mem_singleton] at hc
        rcases hc with hc | hc
        · exact hB3 c hc a b ha hb hab
        · subst hc
          obtain ⟨_, m, _, _, f⟩ := hB.get ha hb hab
          exact ⟨m, f⟩
  · subst es
    rw [xl, List.take_length] at hB3
    have S0all : ∀ a b c, a ∈ JT.names N → b ∈ JT.names N → sLt a b → ChOk N c → S0 xs.length a b c ∧ ∃ m, Btw N (elder N c) a b m := fun a b c ha hb hab C => by
      have hc : c ∈ allBits (JT.joins N).length := mem_allBits.mpr ⟨C.len, C.bit⟩
      exact ⟨⟨ha, hb, hab, by rw [xl, List.take_length]; exact hc⟩, hB3 c hc a b ha hb hab⟩
    have B03 : ∀ b o, H b = some o → H3 b = some o := fun b o e => B3 b o (ne_of_none e hdd) (S02 _ _ e)
    have hd3 := hd.up (Same.tk B03)
    have hp3 := hp.up B03
    have hT3 := hT.ext B03
    refine ⟨_, rfl, v, N, rfl, hd3, G, fun H4 d4 S4 d40 hD4 => ?_⟩
    have hdue4 : DistD H4 dd (JT.names N) (IsDist N) := D3.dist G S0all (fun a b ha hb hab => by
      obtain ⟨_, m, _, _, f⟩ := hD4.get ha hb hab
      exact ⟨m, f⟩) (S4 _ _ hk3)
    obtain ⟨ks, ls, e1, e2, el, ev⟩ := distd_eq hD4 hdue4 (fun a => Iff.rfl) fun a b m m' h h' => h.unique h'
    refine ⟨_, rfl, d4, dd, ks, ls, rfl, rfl, e1, e2, el, ev, _, rfl, iteF ?_⟩
    have hd4 := hd3.up (Same.tk S4)
    have hp4 := hp3.up S4
    have hT4 := hT3.ext S4
    refine ⟨_, rfl, _, rfl, p, pq, v, c, N, rfl, hp4, by omega, hd4, G.toLoose, fun H5 q5 N5 π5 b5 p5 dt5 I5 => ?_⟩
    have hT5 := TabsBut hT4 b5 hp4.kd
    have hd5 := hd4.up (But.tkP b5 hp4)
    have hdue5 := hdue4.keep (H' := H5) fun o e _ => b5 _ _ ndp e
    have G5 := I5.loose G.toLoose
    refine ⟨.ref q5, N5, rfl, dt5, G5, hT5, fun H6 q6 N6 π6 E6 hT6 dt6 I6 G6 => ?_⟩
    have p6 := p5.ext E6
    have hd6 := hd5.up (ext_tk E6)
    have hdue6 := hdue5.keep (H' := H6) fun o e n => E6 _ _ e n
    refine ⟨.ref q6, N6, rfl, dt6, G6, fun H7 d7 S7 d70 hD7 => ?_⟩
    have p7 := p6.up S7
    have hd7 := hd6.up (Same.tk S7)
    have hT7 := hT6.ext S7
    have hdue7 := hdue6.keep (H' := H7) fun o e _ => S7 _ _ e
    obtain ⟨ks, ls, e1, e2, el, ev⟩ := distd_eq hD7 hdue7 (fun a => by rw [I6.mem_names, I5.mem_names]) fun a b m m' h h' => by
      have h := (I5.dist G.lt).mp ((I6.dist G5.lt).mp h)
      exact h.unique h'
    refine ⟨_, rfl, d7, dd, ks, ls, rfl, rfl, e1, e2, el, ev, _, rfl, iteF ?_⟩
    refine ⟨_, rfl, v, N, rfl, hd7, G, h39, fun H8 l8 ys S8 hl8 hys => ⟨4, rfl, l8, _, rfl, hl8, fun l9 hl9 => ⟨l9, rfl, ⟨_, sl_at upd_same⟩, ?_⟩⟩⟩
    rw [show (some (4 : Int)) = some ((4 : Nat) : Int) from rfl, cut_to]
    have S9 := Same.trans' S8 (same_upd (o := .lst (ys.take 4)) hl9)
    have hl9' : upd H8 l9 (.lst (ys.take 4)) l9 = some (.lst (ys.take 4)) := upd_same
    have hys9 : ∀ y ∈ ys.take 4, ShownAt (upd H8 l9 (.lst (ys.take 4))) N y := fun y hy => (hys y (List.mem_of_mem_take hy)).up (tk_new hl9)
    generalize upd H8 l9 (.lst (ys.take 4)) = H9 at S9 hl9' hys9 ⊢
    have p9 := p7.up S9
    have hd9 := hd7.up (Same.tk S9)
    have hT9 := hT7.ext S9
    have hdue9 := hdue7.keep (H' := H9) fun o e _ => S9 _ _ e
    generalize ys.take 4 = zs at hl9' hys9 ⊢
    refine for_gen (n := zs.length) (fun i σ H10 => (∃ s3 s4 s5 s6 s7 s8, σ = [some (.ref p), some v, some (.ref dd), s3, s4, s5, s6, s7, s8]) ∧ LamX.ExtN H9 H10 ∧ LamX.Tabs (lamT PT) H10)
      ⟨⟨_, _, _, _, _, _, rfl⟩, LamX.ExtN.refl _, hT9⟩ (fun i σ H10 hi ⟨_, E, _⟩ => go_lst (E _ _ hl9' (fun _ z => by cases z)) hi) (fun σ H10 ⟨_, E, _⟩ => st_lst (E _ _ hl9' (fun _ z => by cases z)) (Nat.le_refl _)) (fun i σ H10a y H10 hi ⟨⟨s3, s4, s5, s6, s7, s8, es⟩, E10, hT10⟩ hy => ?_) fun σ H10 ⟨⟨s3, s4, s5, s6, s7, s8, es⟩, E10, hT10⟩ => ?_
    · subst es
      obtain ⟨rfl, hy⟩ := hy
      have hy := hy _ (sl_at (E10 _ _ hl9' (fun _ z => by cases z)))
      obtain ⟨qy, tv, uv, t, ch, R, rfl, hqy, dt, du, C, W, o, ok⟩ := (hys9 y (List.mem_of_getElem? hy)).up (ext_tk E10)
      have E := elder_ok G.toLoose C
      refine ⟨qy, _, rfl, hqy, rfl, _, _, rfl, _, _, rfl, rfl, ?_⟩
      have pn := Ord.names _ _ o
      have nd0 := W.nodup E G _ 0 G.pos (Nat.le_refl _)
      have l10 := nodup_le nd0 fun x hx => (W.all E G).mp hx
      have few := G.few
      refine ⟨_, rfl, tv, t, rfl, dt, ok, pn.nodup_iff.mpr nd0, by rw [pn.length_eq]; omega, TOk.nameOk t ok, hT10, fun H11 p11 N1 E11 hT11 d11 G1 rep j0 nm => ?_⟩
      have nmN : ∀ a, a ∈ JT.names N → a ∈ JT.names N1 := fun a ha => (nm a).mpr (pn.mem_iff.mpr ((W.all E G).mpr ha))
      have E011 := E10.trans E11
      have du11 := du.up (ext_tk E11)
      have C1 : ChOk N1 [] := ⟨by rw [j0], by simp⟩
      have E1 := elder_ok G1.toLoose C1
      refine ⟨_, rfl, .ref p11, N1, rfl, d11, G1, fun H12 d12 S12 _ hD12 => ?_⟩
      refine ⟨_, rfl, Nat.zero_le _, fun t0 ht0 => ?_⟩
      have S13 := same_upd (o := .tup []) ht0
      have dt0 : DT (upd H12 t0 (.tup [])) (.ref t0) (encC []) := encC_nil upd_same
      have d13 := (d11.up (Same.tk S12)).up (Same.tk S13)
      refine ⟨.ref p11, .ref t0, N1, [], rfl, d13, dt0, G1, C1, fun H14 d14 S14 _ hB14 => ?_⟩
      have S1114 := Same.trans' S12 (Same.trans' S13 S14)
      have hD14 := hD12.keep (H' := H14) fun o e _ => S14 _ _ (S13 _ _ e)
      obtain ⟨ks, ls, e1, e2, el, ev⟩ := distd_eq hD14 hB14 (fun a => Iff.rfl) fun a b m m' h h' => (btw_tree G1 j0 h' h).symm
      refine ⟨d12, d14, ks, ls, rfl, rfl, e1, e2, el, ev, _, rfl, iteF ?_⟩
      have E014 := E011.trans (.of S1114)
      have d14' := d11.up (Same.tk S1114)
      have du14 := du11.up (Same.tk S1114)
      refine ⟨_, rfl, _, rfl, v, uv, N, ch, rfl, hd9.up (ext_tk E014), du14, G, C, fun H15 d15 S15 d150 hB15 => ?_⟩
      have E015 := E014.trans (.of S15)
      have d15' := d14'.up (Same.tk S15)
      have hdue15 := hdue9.keep (H' := H15) fun o e n => E015 _ _ e n
      obtain ⟨kv, e15, n15, r15, a15⟩ := id hB15
      have nd15 : dd ≠ d15 := fun z => by
        obtain ⟨_, e, _⟩ := hdue9.keep (H' := H14) fun o e n => E014 _ _ e n
        rw [z, d150] at e
        cases e
      refine ⟨d15, .dT kv, e15, trivial, fun od => ?_⟩
      have hz : upd H15 d15 (.frz od (.dT kv)) d15 = some (.frz od (.dT kv)) := upd_same
      have hdueZ := hdue15.keep (H' := upd H15 d15 (.frz od (.dT kv))) fun o e _ => by rw [upd_ne nd15]; exact e
      have dZ := d15'.up (tk_set (o := .frz od (.dT kv)) e15 no_dT)
      refine ⟨_, rfl, d15, od, rfl, .inr ⟨kv, hz, fun DL hDL => ?_⟩⟩
      refine lc_map (n := kv.length) (fun _ => false) (fun _ => .non) hDL ?_ (fun j H16 hj hS => ⟨hS _ _ hz, hj⟩) (fun H16 hS => ⟨hS _ _ hz, Nat.le_refl _⟩) (fun j H16a x H16 Kt Kf hj hS hx hKt hKf => ?_) fun H16 hS16 hl16 => ?_
      · have f := G.few
        have z := nodup_le n15 (m := (JT.names N).flatMap fun a => (JT.names N).map (pk a)) fun k hk => by
          obtain ⟨⟨k', v⟩, hx, rfl⟩ := List.mem_map.mp hk
          obtain ⟨a, b, m, e1, e2, e3, _⟩ := r15 k' v hx
          exact List.mem_flatMap.mpr ⟨a, e2, List.mem_map.mpr ⟨b, e3, e1.symm⟩⟩
        rw [List.length_map, prod_len] at z
        have : (JT.names N).length * (JT.names N).length ≤ 10 * 10 := Nat.mul_le_mul f f
        omega
      · obtain ⟨rfl, k, u, qa, hkv, rfl, hqa⟩ := hx
        obtain ⟨a, b, m, rfl, ha, hb, hab, rfl, hBm⟩ := r15 k u (List.mem_of_getElem? hkv)
        have hg1 : ∀ Hx, Same H16 Hx → DGet Hx d15 (.ref qa) (some (natV m)) := fun Hx Sx => by
          have z : DGet Hx d15 (.ref qa) (valV kv [.inr a, .inr b]) := .inr ⟨kv, _, qa, .inr ⟨od, Sx _ _ (hS _ _ hz)⟩, rfl, Sx _ _ hqa, rfl⟩
          rw [valV_mem n15 (List.mem_of_getElem? hkv)] at z
          exact z
        obtain ⟨kd, md, ed, vd, fd⟩ := (hdueZ.keep (H' := H16) fun o e _ => hS _ _ e).get ha hb hab
        have hg2 : DGet H16 dd (.ref qa) (some (natV md)) := by
          have z := DGet.t ed hqa
          rw [show valV kd [Sum.inr a, Sum.inr b] = some (natV md) from vd] at z
          exact z
        refine ⟨rfl, _, rfl, _, rfl, d15, _, rfl, hg1 _ (Same.refl' _), _, rfl, _, rfl, dd, _, rfl, hg2, _, _, rfl, rfl, _, rfl, ?_⟩
        have lt1 := hBm.least E G fd
        have c1 : decide ((m : Int) < (md : Int)) = false := decide_eq_false (by omega)
        rw [show decide (((m : Nat) : Int) < ((md : Nat) : Int)) = false from c1]
        refine iteF ?_
        refine ⟨_, rfl, _, rfl, d15, _, rfl, hg1 _ (Same.refl' _), _, rfl, .ref p11, N1, rfl, dZ.up (Same.tk hS), G1, fun H17 d17 S17 _ hD17 => ?_⟩
        obtain ⟨kd, m1, ed, vd, f1⟩ := hD17.get (nmN a ha) (nmN b hb) hab
        have hg3 : DGet H17 d17 (.ref qa) (some (natV m1)) := by
          have z := DGet.t ed (S17 _ _ hqa)
          rw [show valV kd [Sum.inr a, Sum.inr b] = some (natV m1) from vd] at z
          exact z
        refine ⟨_, rfl, d17, _, rfl, hg3, _, _, rfl, rfl, _, rfl, ?_⟩
        have lt2 := W.near E G o rep hBm f1
        have c2 : decide ((m : Int) < (m1 : Int)) = false := decide_eq_false (by omega)
        rw [show decide (((m : Nat) : Int) < ((m1 : Nat) : Int)) = false from c2]
        exact iteF (hKf rfl _ S17)
      · refine ⟨hS16 _ _ hz, ?_⟩
        have S1516 : Same H15 (upd H16 d15 (.dT kv)) := fun b o e => by
          by_cases h : b = d15
          · rw [h] at e ⊢
            rw [e15] at e
            cases e
            exact upd_same
          · rw [upd_ne h]
            exact hS16 _ _ (by rw [upd_ne h]; exact e)
        have nDL : DL ≠ d15 := fun z => by rw [z, hz] at hDL; cases hDL
        have hlDL : upd H16 d15 (.dT kv) DL = some (.lst []) := by
          rw [upd_ne nDL, hl16]
          congr 2
          unfold kept
          simp
        generalize upd H16 d15 (.dT kv) = H17 at S1516 hlDL ⊢
        have E17 := E015.trans (.of S1516)
        have T17 := ((hT11.ext S1114).ext S15).ext S1516
        refine ⟨Nat.zero_le _, fun q1 hq1 => ⟨_, _, dq_nil ((same_upd hq1) _ _ hlDL), dq_nil upd_same, by decide, by decide, _, rfl, iteF ⟨⟨_, _, _, _, _, _, rfl⟩, E17.trans (.of (same_upd hq1)), T17.ext (same_upd hq1)⟩⟩⟩
    · subst es
      exact q _ (p9.ext E10) hT10
end
end JT
/-! A13: the law. -/
namespace JT
open PySem PySem.Spec PyProof.Rows L2 PySem.W
abbrev s_law : Stmt := topS 78
abbrev n_law : List Str := ["_law_script", "_law_pen_here", "_law_turn", "_law_net_here"]
theorem sc_law : FnScope n_law ["_law_script"] (defScope s_law) :=
  ⟨rfl, rfl, rfl, by decide +kernel, rfl, by decide +kernel, by decide +kernel⟩
abbrev s_without : Stmt := topS 43
abbrev n_without : List Str := ["kids", "at", "others", "found", "row", "some", "kid", "one"]
theorem sc_without : FnScope n_without ["kids", "at", "others"] (defScope s_without) :=
  ⟨rfl, rfl, rfl, by decide +kernel, rfl, by decide +kernel, by decide +kernel⟩
section
variable {P : Program} {w : World} {K : PySem.W.Frag} {mg : Str → Option Value} {base : Heap}
def spLaw (K : PySem.W.Frag) (PT : Addr) : Sp := fun vs H Q _ => ∃ (a : Addr) (ns : List Int), vs = [.ref a] ∧ H PT = some (.tbl #[]) ∧ SqL K H a (ns.map V.int) ∧ ns.length ≤ 63 ∧ (∀ z ∈ ns, Builtin.Int.intBits z ≤ 1048576) ∧ ∀ H', Q (.bl true) H'
theorem c_law {PT f : Addr} {fd : FuncData} (T : Top mg) (F : Fun K "law" "law" s_law f fd) (C__law_pen : Cal P w K mg base 1 "_law_pen" (spPen K)) (C__law_draw : Cal P w K mg base 1 "_law_draw" spDraw) (C__law_any_net : Cal P w K mg base 14 "_law_any_net" spLAny) (C__law_right : Cal P w K mg base 48 "_law_right" (spLRight PT)) : FnOk P w K mg base CX0 49 f fd ["_law_script"] (spLaw K PT) := by
  have C__law_pen := C__law_pen.mono (show 1 ≤ 48 by decide)
  have C__law_draw := C__law_draw.mono (show 1 ≤ 48 by decide)
  have C__law_any_net := C__law_any_net.mono (show 14 ≤ 48 by decide)
  refine F.ok sc_law (fun vs H Q E h => ?_) fun cdv A outer s H vs Q E hr hsp => ?_
  · obtain ⟨_, _, rfl, _⟩ := h; rfl
  have hu := hu_of hr
  refine ⟨_, (pss_cons (ps_set (i := 1) sc_law.nd rfl (Or.inl rfl) (pe_f C__law_pen hr rfl (pa_cons (pv 0) pa_nil)))
    (pss_cons (ps_for PassesOwn.never rfl (pi_range1 rfl T.range (pa_cons pe_int pa_nil)) (pg_name (i := 2) sc_law.nd rfl (Or.inl rfl))
    (pss_cons (ps_set (i := 3) sc_law.nd rfl (Or.inl rfl) (pe_f C__law_any_net hr rfl (pa_cons (pv 1) (pa_cons (pe_ix ixl (pe_lst (pa_cons pe_int (pa_cons pe_int (pa_cons pe_int (pa_cons pe_int pa_nil))))) (pe_f C__law_draw hr rfl (pa_cons (pv 1) (pa_cons pe_int pa_nil))) (fun _ _ => rfl)) pa_nil))))
    (pss_one (ps_if (pt_not (pt_val (pe_f C__law_right hr rfl (pa_cons (pv 1) (pa_cons (pv 3) pa_nil))))) (pss_one (ps_ret pe_bl)) pss_nil))))
    (pss_one (ps_ret pe_bl)))), ?_⟩
  obtain ⟨a, ns, rfl, hP, ha, hl, hb, q⟩ := hsp
  have hT0 : LamX.Tabs (lamT PT) H := fun p hp => by
    rw [List.mem_singleton.mp hp]
    exact LamX.TabS.nil hP
  refine ⟨_, rfl, a, ns, rfl, ha, fun H1 p pq S1 _ hp => ?_⟩
  have hT1 := hT0.ext S1
  refine ⟨2, rfl, by decide, by decide, ?_⟩
  refine for_gen (n := 2) (fun i σ H2 => (∃ s2 s3, σ = [some (.ref a), some (.ref p), s2, s3]) ∧ PenAt H2 p pq (1000 * i) ∧ LamX.Tabs (lamT PT) H2)
    ⟨⟨_, _, rfl⟩, hp, hT1⟩ (fun i σ H2 hi _ => hi) (fun σ H2 _ => Nat.le_refl _) (fun i σ H2a x H2 hi ⟨⟨s2, s3, es⟩, p2, hT2⟩ hy => ?_) fun σ H2 _ => ?_
  · subst es
    obtain ⟨rfl, rfl⟩ := hy
    refine ⟨_, rfl, small (show 4 ≤ 10000 by decide), fun l hl => ?_⟩
    have S3 := same_upd (o := .lst [V.int 4, V.int 4, V.int 4, V.int 6]) hl
    have hl3 : upd H2 l (.lst [V.int 4, V.int 4, V.int 4, V.int 6]) l = some (.lst [V.int 4, V.int 4, V.int 4, V.int 6]) := upd_same
    have p3 := p2.up S3
    have hT3 := hT2.ext S3
    generalize upd H2 l (.lst [V.int 4, V.int 4, V.int 4, V.int 6]) = H3 at S3 hl3 p3 hT3 ⊢
    refine ⟨_, rfl, p, pq, 1000 * i, 4, rfl, p3, by omega, by decide, by decide, fun H4 r b4 p4 r0 r1 => ?_⟩
    have hT4 := TabsBut hT3 b4 p3.kd
    have hl4 := b4 _ _ (p3.ne hl3) hl3
    obtain ⟨m, hm, hm6⟩ : ∃ m : Nat, atI [V.int 4, V.int 4, V.int 4, V.int 6] r = some (natV m) ∧ m ≤ 6 := by
      have : r = 0 ∨ r = 1 ∨ r = 2 ∨ r = 3 := by omega
      rcases this with e | e | e | e <;> subst e
      · exact ⟨4, atI_nat (j := 0) rfl, by omega⟩
      · exact ⟨4, atI_nat (j := 1) rfl, by omega⟩
      · exact ⟨4, atI_nat (j := 2) rfl, by omega⟩
      · exact ⟨6, atI_nat (j := 3) rfl, by omega⟩
    refine ⟨l, _, r, natV m, rfl, rfl, hl4, hm, p, pq, _, m, rfl, p4, by omega, hm6, fun H5 v N b5 p5 d5 G5 l5 => ?_⟩
    have hT5 := TabsBut hT4 b5 p4.kd
    refine ⟨_, rfl, _, rfl, p, pq, v, _, N, rfl, p5, by omega, d5, G5, l5, hT5, fun H6 p6 hT6 => ?_⟩
    exact ⟨_, rfl, iteF ⟨⟨_, _, rfl⟩, p6.more (by omega), hT6⟩⟩
  · exact q _
end
end JT
open PySem PySem.W PyProof.Rows
/-! Fin: the end. -/
namespace JT
open PySem PySem.Spec PyProof.Rows L2
theorem Def.of {K : PySem.W.Frag} {h : Heap} {mg : Str → Option Value} {g x : Str} {st : Stmt} {f : Addr} {oc : Value} {od an : Option Addr} {sl : Array (Option Value)} {kV dc pm cd ct : Value} (X : K.In h) (G : h.Ns mainGlobals mg)
    (a : PySem.W.nsIn K mainGlobals g = some (some (.ref f))) (l : K.lookup f = some ⟨oc, od, .func (PySem.W.fnOf x x (defArgs st) (defBody st) (defScope st) .none kV dc pm an cd ct), sl⟩) (c : PySem.W.codeIn K cd x = true) (k : PySem.W.keepIn K (.ref f) = true) : Def K mg g x st := ⟨f, _, fun_mk l c k, PySem.W.mg_of X G a⟩
theorem DefC.of {K : PySem.W.Frag} {h : Heap} {mg : Str → Option Value} {g x : Str} {st : Stmt} {f cc : Addr} {oc : Value} {od an : Option Addr} {sl : Array (Option Value)} {kV dc pm ct : Value} (X : K.In h) (G : h.Ns mainGlobals mg)
    (a : PySem.W.nsIn K mainGlobals g = some (some (.ref f))) (l : K.lookup f = some ⟨oc, od, .func (PySem.W.fnOf x x (defArgs st) (defBody st) (defScope st) .none kV dc pm an (.ref cc) ct), sl⟩) (c : PySem.W.codeIn K (.ref cc) x = true) (k : PySem.W.keepIn K (.ref f) = true) : DefC K mg g x st cc := ⟨f, oc, od, kV, dc, pm, an, ct, sl, l, c, k, PySem.W.mg_of X G a⟩
theorem top_of {K : PySem.W.Frag} {h : Heap} {mg : Str → Option Value} (X : K.In h) (G : h.Ns mainGlobals mg)
   {t0 : Tok} {t1 : Tok} {t2 : Tok} {t3 : Tok} {t4 : Tok} {t5 : Tok} {t6 : Tok}
    (z_isinstance : PySem.W.nsIn K mainGlobals "isinstance" = some none)
    (z_len : PySem.W.nsIn K mainGlobals "len" = some none)
    (z_all : PySem.W.nsIn K mainGlobals "all" = some none)
    (z_tuple : PySem.W.nsIn K mainGlobals "tuple" = some none)
    (z_sorted : PySem.W.nsIn K mainGlobals "sorted" = some none)
    (z_set : PySem.W.nsIn K mainGlobals "set" = some none)
    (z_list : PySem.W.nsIn K mainGlobals "list" = some none)
    (z_dict : PySem.W.nsIn K mainGlobals "dict" = some none)
    (z_min : PySem.W.nsIn K mainGlobals "min" = some none)
    (z_max : PySem.W.nsIn K mainGlobals "max" = some none)
    (z_enumerate : PySem.W.nsIn K mainGlobals "enumerate" = some none)
    (z_zip : PySem.W.nsIn K mainGlobals "zip" = some none)
    (z_int : PySem.W.nsIn K mainGlobals "int" = some none)
    (z_abs : PySem.W.nsIn K mainGlobals "abs" = some none)
    (z_range : PySem.W.nsIn K mainGlobals "range" = some none)
    (z_str : PySem.W.nsIn K mainGlobals "str" = some none)
    (z_bool : PySem.W.nsIn K mainGlobals "bool" = some none)
    (v_LETTERS : PySem.W.nsIn K mainGlobals "LETTERS" = some (some (.str LET t0)))
    (v_LONGEST : PySem.W.nsIn K mainGlobals "LONGEST" = some (some (.int 8 t1)))
    (v_MOST_NAMES : PySem.W.nsIn K mainGlobals "MOST_NAMES" = some (some (.int 10 t2)))
    (v_MOST_DEEP : PySem.W.nsIn K mainGlobals "MOST_DEEP" = some (some (.int 9 t3)))
    (v_MOST_ROWS : PySem.W.nsIn K mainGlobals "MOST_ROWS" = some (some (.int 60 t4)))
    (v_MOST_LEAVES : PySem.W.nsIn K mainGlobals "MOST_LEAVES" = some (some (.int 10 t5)))
    (v_MOST_JOINS : PySem.W.nsIn K mainGlobals "MOST_JOINS" = some (some (.int 12 t6)))
    : Top mg :=
  ⟨PySem.W.mg_none_of X G z_isinstance, PySem.W.mg_none_of X G z_len, PySem.W.mg_none_of X G z_all, PySem.W.mg_none_of X G z_tuple, PySem.W.mg_none_of X G z_sorted, PySem.W.mg_none_of X G z_set, PySem.W.mg_none_of X G z_list, PySem.W.mg_none_of X G z_dict, PySem.W.mg_none_of X G z_min, PySem.W.mg_none_of X G z_max, PySem.W.mg_none_of X G z_enumerate, PySem.W.mg_none_of X G z_zip, PySem.W.mg_none_of X G z_int, PySem.W.mg_none_of X G z_abs, PySem.W.mg_none_of X G z_range, PySem.W.mg_none_of X G z_str, PySem.W.mg_none_of X G z_bool, ⟨_, PySem.W.mg_of X G v_LETTERS⟩, ⟨_, PySem.W.mg_of X G v_LONGEST⟩, ⟨_, PySem.W.mg_of X G v_MOST_NAMES⟩, ⟨_, PySem.W.mg_of X G v_MOST_DEEP⟩, ⟨_, PySem.W.mg_of X G v_MOST_ROWS⟩, ⟨_, PySem.W.mg_of X G v_MOST_LEAVES⟩, ⟨_, PySem.W.mg_of X G v_MOST_JOINS⟩⟩
theorem law_mk {l : PySem.W.OpenLaw} {w : World} {K : PySem.W.Frag} {h : Heap} {mg : Str → Option Value} {fa f c PT : Addr} {oc : Value} {od an : Option Addr} {sl : Array (Option Value)} {kV dc pm cd ct : Value} (X : K.In h) (G : h.Ns mainGlobals mg) (hfa : mg "law" = some (.ref fa)) (hT : h.get? PT = some (PySem.W.tabObj #[])) (T : Top mg)
    (D__law_pen : Def K mg "_law_pen" "_law_pen" s__law_pen)
    (D__law_draw : Def K mg "_law_draw" "_law_draw" s__law_draw)
    (D__law_odd_net : Def K mg "_law_odd_net" "_law_odd_net" s__law_odd_net)
    (D__law_names : Def K mg "_law_names" "_law_names" s__law_names)
    (D__law_least : Def K mg "_law_least" "_law_least" s__law_least)
    (D__law_fork : Def K mg "_law_fork" "_law_fork" s__law_fork)
    (D__law_tree : Def K mg "_law_tree" "_law_tree" s__law_tree)
    (D__law_rows : Def K mg "_law_rows" "_law_rows" s__law_rows)
    (D__law_leads_to : Def K mg "_law_leads_to" "_law_leads_to" s__law_leads_to)
    (D__law_joined : Def K mg "_law_joined" "_law_joined" s__law_joined)
    (D__law_numbered : Def K mg "_law_numbered" "_law_numbered" s__law_numbered)
    (D__law_net : Def K mg "_law_net" "_law_net" s__law_net)
    (D__law_any_net : Def K mg "_law_any_net" "_law_any_net" s__law_any_net)
    (D__law_joins : Def K mg "_law_joins" "_law_joins" s__law_joins)
    (D__law_choices : Def K mg "_law_choices" "_law_choices" s__law_choices)
    (D__law_kids : Def K mg "_law_kids" "_law_kids" s__law_kids)
    (D__law_ways : Def K mg "_law_ways" "_law_ways" s__law_ways)
    (D__law_road : Def K mg "_law_road" "_law_road" s__law_road)
    (D__law_between : Def K mg "_law_between" "_law_between" s__law_between)
    (D_kids_of : Def K mg "kids_of" "kids_of" s_kids_of)
    (D_steps_down : Def K mg "steps_down" "steps_down" s_steps_down)
    (D_names_of : Def K mg "names_of" "names_of" s_names_of)
    (D_pairs_of : Def K mg "pairs_of" "pairs_of" s_pairs_of)
    (D_distances : Def K mg "distances" "distances" s_distances)
    (D_is_pair : Def K mg "is_pair" "is_pair" s_is_pair)
    (D_is_number : Def K mg "is_number" "is_number" s_is_number)
    (D_is_name : Def K mg "is_name" "is_name" s_is_name)
    (D_is_leaf : Def K mg "is_leaf" "is_leaf" s_is_leaf)
    (D_is_loose_row : Def K mg "is_loose_row" "is_loose_row" s_is_loose_row)
    (D_ways_up : Def K mg "ways_up" "ways_up" s_ways_up)
    (D_goes_round : Def K mg "goes_round" "goes_round" s_goes_round)
    (D_are_loose_rows : Def K mg "are_loose_rows" "are_loose_rows" s_are_loose_rows)
    (D_single : Def K mg "single" "single" s_single)
    (D_next_out : Def K mg "next_out" "next_out" s_next_out)
    (D_without : Def K mg "without" "without" s_without)
    (D_reduced : Def K mg "reduced" "reduced" s_reduced)
    (D_depths : Def K mg "depths" "depths" s_depths)
    (D_numbered : DefC K mg "numbered" "numbered" s_numbered c)
    (D_is_fork_nets : Def K mg "is_fork_nets" "is_fork" s_is_fork_nets)
    (D_is_row : Def K mg "is_row" "is_row" s_is_row)
    (D_joins_of : Def K mg "joins_of" "joins_of" s_joins_of)
    (D_all_ways : Def K mg "all_ways" "all_ways" s_all_ways)
    (D_are_led_to : Def K mg "are_led_to" "are_led_to" s_are_led_to)
    (D_is_net : Def K mg "is_net" "is_net" s_is_net)
    (D_net_of : Def K mg "net_of" "net_of" s_net_of)
    (D__law_moved_rows : Def K mg "_law_moved_rows" "_law_moved_rows" s__law_moved_rows)
    (D_choices_of : Def K mg "choices_of" "choices_of" s_choices_of)
    (D_first_name : Def K mg "first_name" "first_name" s_first_name)
    (D_is_fork_trees : Def K mg "is_fork_trees" "is_fork" s_is_fork_trees)
    (D_standing : Def K mg "standing" "standing" s_standing)
    (D_is_tree : Def K mg "is_tree" "is_tree" s_is_tree)
    (D_fork_of : Def K mg "fork_of" "fork_of" s_fork_of)
    (D_ordered : Def K mg "ordered" "ordered" s_ordered)
    (D_set_right : Def K mg "set_right" "set_right" s_set_right)
    (D_shown_by : Def K mg "shown_by" "shown_by" s_shown_by)
    (D_shown : Def K mg "shown" "shown" s_shown)
    (D_tree_rows : Def K mg "tree_rows" "tree_rows" s_tree_rows)
    (D_net_of_tree : Def K mg "net_of_tree" "net_of_tree" s_net_of_tree)
    (D__law_right : Def K mg "_law_right" "_law_right" s__law_right)
    (a : PySem.W.nsIn K mainGlobals "law" = some (some (.ref f))) (lk : K.lookup f = some ⟨oc, od, .func (PySem.W.fnOf "law" "law" (defArgs s_law) (defBody s_law) (defScope s_law) .none kV dc pm an cd ct), sl⟩) (hc : PySem.W.codeIn K cd "law" = true) (hk : PySem.W.keepIn K (.ref f) = true)
    (ch : PySem.W.codeHdIn K c PT = true) (nP : K.lookup PT = none) : LamX.LawAtS l w K L2.CX0 60 63 "_law_script" mg fa h := by
  have e := hfa.symm.trans (PySem.W.mg_of X G a)
  cases e
  refine ⟨PySem.W.fnOf "law" "law" (defArgs s_law) (defBody s_law) (defScope s_law) .none kV dc pm an cd ct, [(c, PT)], spLaw K PT, fun p hp => ?_, fun p hp => ?_, fun p hp => ?_, fun s v => .of_eq rfl, fun H a ns hl hb hP hS => ⟨a, ns, rfl, hP _ (List.mem_singleton.mpr rfl), hS, hl, hb, fun _ => rfl⟩, fun base KB GB TBs => ?_⟩
  · rw [List.mem_singleton.mp hp]; exact hT
  · rw [List.mem_singleton.mp hp]; exact nP
  · rw [List.mem_singleton.mp hp]; exact PySem.W.codeHd_of_K X ch
  have TB : LamX.TabB base mg c PT := TBs _ (List.mem_singleton.mpr rfl)
  have C__law_pen := c__law_pen (P := l.prog) (w := w) (base := base) T D__law_pen
  have C__law_draw := c__law_draw (P := l.prog) (w := w) (base := base) T D__law_draw
  have C__law_odd_net := c__law_odd_net (P := l.prog) (w := w) (base := base) T D__law_odd_net C__law_draw
  have C__law_names := c__law_names (P := l.prog) (w := w) (base := base) T D__law_names C__law_draw
  have C__law_least := c__law_least (P := l.prog) (w := w) (base := base) T D__law_least
  have C__law_fork := c__law_fork (P := l.prog) (w := w) (base := base) T D__law_fork C__law_least
  have C__law_tree := c__law_tree (P := l.prog) (w := w) (base := base) T D__law_tree C__law_draw C__law_fork
  have C__law_rows := c__law_rows (P := l.prog) (w := w) (base := base) T D__law_rows
  have C__law_leads_to := c__law_leads_to (P := l.prog) (w := w) (base := base) T D__law_leads_to
  have C__law_joined := c__law_joined (P := l.prog) (w := w) (base := base) T D__law_joined C__law_draw C__law_leads_to
  have C__law_numbered := c__law_numbered (P := l.prog) (w := w) (base := base) T D__law_numbered
  have C__law_net := c__law_net (P := l.prog) (w := w) (base := base) T D__law_net C__law_rows C__law_joined C__law_numbered
  have C__law_any_net := c__law_any_net (P := l.prog) (w := w) (base := base) T D__law_any_net C__law_draw C__law_odd_net C__law_names C__law_tree C__law_net
  have C__law_joins := c__law_joins (P := l.prog) (w := w) (base := base) T D__law_joins
  have C__law_choices := c__law_choices (P := l.prog) (w := w) (base := base) T D__law_choices C__law_joins
  have C__law_kids := c__law_kids (P := l.prog) (w := w) (base := base) T D__law_kids
  have C__law_ways := c__law_ways (P := l.prog) (w := w) (base := base) T D__law_ways C__law_kids
  have C__law_road := c__law_road (P := l.prog) (w := w) (base := base) T D__law_road
  have C__law_between := c__law_between (P := l.prog) (w := w) (base := base) T D__law_between C__law_ways C__law_joins C__law_road
  have C_kids_of := c_kids_of (P := l.prog) (w := w) (base := base) T D_kids_of
  have C_steps_down := c_steps_down (P := l.prog) (w := w) (base := base) T D_steps_down C_kids_of
  have C_names_of := c_names_of (P := l.prog) (w := w) (base := base) T D_names_of
  have C_pairs_of := c_pairs_of (P := l.prog) (w := w) (base := base) T D_pairs_of
  have C_distances := c_distances (P := l.prog) (w := w) (base := base) T D_distances C_steps_down C_names_of C_pairs_of
  have C_is_pair := c_is_pair (P := l.prog) (w := w) (base := base) T D_is_pair
  have C_is_number := c_is_number (P := l.prog) (w := w) (base := base) T D_is_number
  have C_is_name := c_is_name (P := l.prog) (w := w) (base := base) T D_is_name
  have C_is_leaf := c_is_leaf (P := l.prog) (w := w) (base := base) T D_is_leaf C_is_pair C_is_name
  have C_is_loose_row := c_is_loose_row (P := l.prog) (w := w) (base := base) T D_is_loose_row C_is_pair C_is_number C_is_leaf
  have C_ways_up := c_ways_up (P := l.prog) (w := w) (base := base) T D_ways_up
  have C_goes_round := c_goes_round (P := l.prog) (w := w) (base := base) T D_goes_round C_ways_up
  have C_are_loose_rows := c_are_loose_rows (P := l.prog) (w := w) (base := base) T D_are_loose_rows C_is_loose_row C_kids_of C_ways_up C_goes_round
  have C_single := c_single (P := l.prog) (w := w) (base := base) T D_single
  have C_next_out := c_next_out (P := l.prog) (w := w) (base := base) T D_next_out C_ways_up
  have C_without := dummy (P := l.prog) (w := w) (base := base) (sp := fun _ _ _ _ => False) D_without sc_without (fun _ _ _ _ _ _ us hl => match us, hl with | [_, _, _], _ => rfl) fun _ _ _ _ z => z
  have C_reduced := c_reduced (P := l.prog) (w := w) (base := base) T D_reduced C_kids_of C_single C_next_out C_without
  have C_depths := c_depths (P := l.prog) (w := w) (base := base) T D_depths C_ways_up
  have C_numbered := c_numbered (P := l.prog) (w := w) (base := base) TB T D_numbered C_depths
  have C_is_fork_nets := c_is_fork_nets (P := l.prog) (w := w) (base := base) T D_is_fork_nets C_is_pair C_is_number
  have C_is_row := c_is_row (P := l.prog) (w := w) (base := base) T D_is_row C_is_pair C_is_number C_is_leaf C_is_fork_nets
  have C_joins_of := c_joins_of (P := l.prog) (w := w) (base := base) T D_joins_of
  have C_all_ways := c_all_ways (P := l.prog) (w := w) (base := base) T D_all_ways C_kids_of
  have C_are_led_to := c_are_led_to (P := l.prog) (w := w) (base := base) T D_are_led_to C_all_ways
  have C_is_net := c_is_net (P := l.prog) (w := w) (base := base) T D_is_net C_is_row C_joins_of C_are_led_to
  have C_net_of := c_net_of (P := l.prog) (w := w) (base := base) T D_net_of C_are_loose_rows C_reduced C_numbered C_is_net
  have C__law_moved_rows := c__law_moved_rows (P := l.prog) (w := w) (base := base) T D__law_moved_rows C__law_draw
  have C_choices_of := c_choices_of (P := l.prog) (w := w) (base := base) T D_choices_of C_joins_of
  have C_first_name := c_first_name (P := l.prog) (w := w) (base := base) T D_first_name
  have C_is_fork_trees := c_is_fork_trees (P := l.prog) (w := w) (base := base) T D_is_fork_trees C_is_name C_first_name
  have C_standing := c_standing (P := l.prog) (w := w) (base := base) T D_standing
  have C_is_tree := c_is_tree (P := l.prog) (w := w) (base := base) T D_is_tree C_is_fork_trees C_standing
  have C_fork_of := c_fork_of (P := l.prog) (w := w) (base := base) T D_fork_of C_first_name
  have C_ordered := c_ordered (P := l.prog) (w := w) (base := base) T D_ordered C_is_name C_fork_of
  have C_set_right := c_set_right (P := l.prog) (w := w) (base := base) T D_set_right C_is_tree C_ordered
  have C_shown_by := c_shown_by (P := l.prog) (w := w) (base := base) T D_shown_by C_all_ways C_joins_of C_kids_of C_set_right
  have C_shown := c_shown (P := l.prog) (w := w) (base := base) T D_shown C_choices_of C_shown_by
  have C_tree_rows := c_tree_rows (P := l.prog) (w := w) (base := base) T D_tree_rows
  have C_net_of_tree := c_net_of_tree (P := l.prog) (w := w) (base := base) T D_net_of_tree C_tree_rows C_net_of
  have C__law_right := c__law_right (P := l.prog) (w := w) (base := base) T D__law_right C__law_choices C__law_between C_distances C_net_of C__law_moved_rows C_shown C_net_of_tree
  exact (c_law (P := l.prog) (w := w) (base := base) T (fun_mk lk hc hk) C__law_pen C__law_draw C__law_any_net C__law_right).mono (by decide)
end JT
set_option maxHeartbeats 0 in
theorem PySem.Challenge.cw_joinedtrees_k33_whole_distances_by_choic_holds : PySem.Challenge.rw_joinedtrees_k33_whole_distances_by_choic.Holds := by
  w_on; o_law; k_head; (case hw => w_witness2)
  k_fill
  refine LamX.walk_ofTs (l := PySem.Challenge.rw_joinedtrees_k33_whole_distances_by_choic) (n := 63) (k := 60) (x := "_law_script") (CX := fun _ => L2.CX0) rfl (by decide) rfl ⟨rfl, by decide, by decide⟩ (fun w h Y => PySem.W.km_in_of Y) ?F (fun _ _ _ _ _ h => h)
  case F =>
    intro w mg fa h Y KX G hmg
    have hT := PySem.W.km_tabs_of Y
    have hT1 := hT _ (List.mem_singleton.mpr rfl)
    refine' JT.law_mk KX G hmg hT1 (JT.top_of KX G ?z_isinstance ?z_len ?z_all ?z_tuple ?z_sorted ?z_set ?z_list ?z_dict ?z_min ?z_max ?z_enumerate ?z_zip ?z_int ?z_abs ?z_range ?z_str ?z_bool ?v_LETTERS ?v_LONGEST ?v_MOST_NAMES ?v_MOST_DEEP ?v_MOST_ROWS ?v_MOST_LEAVES ?v_MOST_JOINS) (JT.Def.of KX G ?a__law_pen ?l__law_pen ?c__law_pen ?k__law_pen)
      (JT.Def.of KX G ?a__law_draw ?l__law_draw ?c__law_draw ?k__law_draw)
      (JT.Def.of KX G ?a__law_odd_net ?l__law_odd_net ?c__law_odd_net ?k__law_odd_net)
      (JT.Def.of KX G ?a__law_names ?l__law_names ?c__law_names ?k__law_names)
      (JT.Def.of KX G ?a__law_least ?l__law_least ?c__law_least ?k__law_least)
      (JT.Def.of KX G ?a__law_fork ?l__law_fork ?c__law_fork ?k__law_fork)
      (JT.Def.of KX G ?a__law_tree ?l__law_tree ?c__law_tree ?k__law_tree)
      (JT.Def.of KX G ?a__law_rows ?l__law_rows ?c__law_rows ?k__law_rows)
      (JT.Def.of KX G ?a__law_leads_to ?l__law_leads_to ?c__law_leads_to ?k__law_leads_to)
      (JT.Def.of KX G ?a__law_joined ?l__law_joined ?c__law_joined ?k__law_joined)
      (JT.Def.of KX G ?a__law_numbered ?l__law_numbered ?c__law_numbered ?k__law_numbered)
      (JT.Def.of KX G ?a__law_net ?l__law_net ?c__law_net ?k__law_net)
      (JT.Def.of KX G ?a__law_any_net ?l__law_any_net ?c__law_any_net ?k__law_any_net)
      (JT.Def.of KX G ?a__law_joins ?l__law_joins ?c__law_joins ?k__law_joins)
      (JT.Def.of KX G ?a__law_choices ?l__law_choices ?c__law_choices ?k__law_choices)
      (JT.Def.of KX G ?a__law_kids ?l__law_kids ?c__law_kids ?k__law_kids)
      (JT.Def.of KX G ?a__law_ways ?l__law_ways ?c__law_ways ?k__law_ways)
      (JT.Def.of KX G ?a__law_road ?l__law_road ?c__law_road ?k__law_road)
      (JT.Def.of KX G ?a__law_between ?l__law_between ?c__law_between ?k__law_between)
      (JT.Def.of KX G ?a_kids_of ?l_kids_of ?c_kids_of ?k_kids_of)
      (JT.Def.of KX G ?a_steps_down ?l_steps_down ?c_steps_down ?k_steps_down)
      (JT.Def.of KX G ?a_names_of ?l_names_of ?c_names_of ?k_names_of)
      (JT.Def.of KX G ?a_pairs_of ?l_pairs_of ?c_pairs_of ?k_pairs_of)
      (JT.Def.of KX G ?a_distances ?l_distances ?c_distances ?k_distances)
      (JT.Def.of KX G ?a_is_pair ?l_is_pair ?c_is_pair ?k_is_pair)
      (JT.Def.of KX G ?a_is_number ?l_is_number ?c_is_number ?k_is_number)
      (JT.Def.of KX G ?a_is_name ?l_is_name ?c_is_name ?k_is_name)
      (JT.Def.of KX G ?a_is_leaf ?l_is_leaf ?c_is_leaf ?k_is_leaf)
      (JT.Def.of KX G ?a_is_loose_row ?l_is_loose_row ?c_is_loose_row ?k_is_loose_row)
      (JT.Def.of KX G ?a_ways_up ?l_ways_up ?c_ways_up ?k_ways_up)
      (JT.Def.of KX G ?a_goes_round ?l_goes_round ?c_goes_round ?k_goes_round)
      (JT.Def.of KX G ?a_are_loose_rows ?l_are_loose_rows ?c_are_loose_rows ?k_are_loose_rows)
      (JT.Def.of KX G ?a_single ?l_single ?c_single ?k_single)
      (JT.Def.of KX G ?a_next_out ?l_next_out ?c_next_out ?k_next_out)
      (JT.Def.of KX G ?a_without ?l_without ?c_without ?k_without)
      (JT.Def.of KX G ?a_reduced ?l_reduced ?c_reduced ?k_reduced)
      (JT.Def.of KX G ?a_depths ?l_depths ?c_depths ?k_depths)
      (JT.DefC.of KX G ?a_numbered ?l_numbered ?c_numbered ?k_numbered)
      (JT.Def.of KX G ?a_is_fork_nets ?l_is_fork_nets ?c_is_fork_nets ?k_is_fork_nets)
      (JT.Def.of KX G ?a_is_row ?l_is_row ?c_is_row ?k_is_row)
      (JT.Def.of KX G ?a_joins_of ?l_joins_of ?c_joins_of ?k_joins_of)
      (JT.Def.of KX G ?a_all_ways ?l_all_ways ?c_all_ways ?k_all_ways)
      (JT.Def.of KX G ?a_are_led_to ?l_are_led_to ?c_are_led_to ?k_are_led_to)
      (JT.Def.of KX G ?a_is_net ?l_is_net ?c_is_net ?k_is_net)
      (JT.Def.of KX G ?a_net_of ?l_net_of ?c_net_of ?k_net_of)
      (JT.Def.of KX G ?a__law_moved_rows ?l__law_moved_rows ?c__law_moved_rows ?k__law_moved_rows)
      (JT.Def.of KX G ?a_choices_of ?l_choices_of ?c_choices_of ?k_choices_of)
      (JT.Def.of KX G ?a_first_name ?l_first_name ?c_first_name ?k_first_name)
      (JT.Def.of KX G ?a_is_fork_trees ?l_is_fork_trees ?c_is_fork_trees ?k_is_fork_trees)
      (JT.Def.of KX G ?a_standing ?l_standing ?c_standing ?k_standing)
      (JT.Def.of KX G ?a_is_tree ?l_is_tree ?c_is_tree ?k_is_tree)
      (JT.Def.of KX G ?a_fork_of ?l_fork_of ?c_fork_of ?k_fork_of)
      (JT.Def.of KX G ?a_ordered ?l_ordered ?c_ordered ?k_ordered)
      (JT.Def.of KX G ?a_set_right ?l_set_right ?c_set_right ?k_set_right)
      (JT.Def.of KX G ?a_shown_by ?l_shown_by ?c_shown_by ?k_shown_by)
      (JT.Def.of KX G ?a_shown ?l_shown ?c_shown ?k_shown)
      (JT.Def.of KX G ?a_tree_rows ?l_tree_rows ?c_tree_rows ?k_tree_rows)
      (JT.Def.of KX G ?a_net_of_tree ?l_net_of_tree ?c_net_of_tree ?k_net_of_tree)
      (JT.Def.of KX G ?a__law_right ?l__law_right ?c__law_right ?k__law_right) ?a_law ?l_law ?c_law ?k_law ?ch ?nP
    (case z_isinstance => k_is)
    (case z_len => k_is)
    (case z_all => k_is)
    (case z_tuple => k_is)
    (case z_sorted => k_is)
    (case z_set => k_is)
    (case z_list => k_is)
    (case z_dict => k_is)
    (case z_min => k_is)
    (case z_max => k_is)
    (case z_enumerate => k_is)
    (case z_zip => k_is)
    (case z_int => k_is)
    (case z_abs => k_is)
    (case z_range => k_is)
    (case z_str => k_is)
    (case z_bool => k_is)
    (case v_LETTERS => k_is)
    (case v_LONGEST => k_is)
    (case v_MOST_NAMES => k_is)
    (case v_MOST_DEEP => k_is)
    (case v_MOST_ROWS => k_is)
    (case v_MOST_LEAVES => k_is)
    (case v_MOST_JOINS => k_is)
    (case a__law_pen => k_is)
    (case l__law_pen => k_is)
    (case c__law_pen => k_is)
    (case k__law_pen => k_is)
    (case a__law_draw => k_is)
    (case l__law_draw => k_is)
    (case c__law_draw => k_is)
    (case k__law_draw => k_is)
    (case a__law_odd_net => k_is)
    (case l__law_odd_net => k_is)
    (case c__law_odd_net => k_is)
    (case k__law_odd_net => k_is)
    (case a__law_names => k_is)
    (case l__law_names => k_is)
    (case c__law_names => k_is)
    (case k__law_names => k_is)
    (case a__law_least => k_is)
    (case l__law_least => k_is)
    (case c__law_least => k_is)
    (case k__law_least => k_is)
    (case a__law_fork => k_is)
    (case l__law_fork => k_is)
    (case c__law_fork => k_is)
    (case k__law_fork => k_is)
    (case a__law_tree => k_is)
    (case l__law_tree => k_is)
    (case c__law_tree => k_is)
    (case k__law_tree => k_is)
    (case a__law_rows => k_is)
    (case l__law_rows => k_is)
    (case c__law_rows => k_is)
    (case k__law_rows => k_is)
    (case a__law_leads_to => k_is)
    (case l__law_leads_to => k_is)
    (case c__law_leads_to => k_is)
    (case k__law_leads_to => k_is)
    (case a__law_joined => k_is)
    (case l__law_joined => k_is)
    (case c__law_joined => k_is)
    (case k__law_joined => k_is)
    (case a__law_numbered => k_is)
    (case l__law_numbered => k_is)
    (case c__law_numbered => k_is)
    (case k__law_numbered => k_is)
    (case a__law_net => k_is)
    (case l__law_net => k_is)
    (case c__law_net => k_is)
    (case k__law_net => k_is)
    (case a__law_any_net => k_is)
    (case l__law_any_net => k_is)
    (case c__law_any_net => k_is)
    (case k__law_any_net => k_is)
    (case a__law_joins => k_is)
    (case l__law_joins => k_is)
    (case c__law_joins => k_is)
    (case k__law_joins => k_is)
    (case a__law_choices => k_is)
    (case l__law_choices => k_is)
    (case c__law_choices => k_is)
    (case k__law_choices => k_is)
    (case a__law_kids => k_is)
    (case l__law_kids => k_is)
    (case c__law_kids => k_is)
    (case k__law_kids => k_is)
    (case a__law_ways => k_is)
    (case l__law_ways => k_is)
    (case c__law_ways => k_is)
    (case k__law_ways => k_is)
    (case a__law_road => k_is)
    (case l__law_road => k_is)
    (case c__law_road => k_is)
    (case k__law_road => k_is)
    (case a__law_between => k_is)
    (case l__law_between => k_is)
    (case c__law_between => k_is)
    (case k__law_between => k_is)
    (case a_kids_of => k_is)
    (case l_kids_of => k_is)
    (case c_kids_of => k_is)
    (case k_kids_of => k_is)
    (case a_steps_down => k_is)
    (case l_steps_down => k_is)
    (case c_steps_down => k_is)
    (case k_steps_down => k_is)
    (case a_names_of => k_is)
    (case l_names_of => k_is)
    (case c_names_of => k_is)
    (case k_names_of => k_is)
    (case a_pairs_of => k_is)
    (case l_pairs_of => k_is)
    (case c_pairs_of => k_is)
    (case k_pairs_of => k_is)
    (case a_distances => k_is)
    (case l_distances => k_is)
    (case c_distances => k_is)
    (case k_distances => k_is)
    (case a_is_pair => k_is)
    (case l_is_pair => k_is)
    (case c_is_pair => k_is)
    (case k_is_pair => k_is)
    (case a_is_number => k_is)
    (case l_is_number => k_is)
    (case c_is_number => k_is)
    (case k_is_number => k_is)
    (case a_is_name => k_is)
    (case l_is_name => k_is)
    (case c_is_name => k_is)
    (case k_is_name => k_is)
    (case a_is_leaf => k_is)
    (case l_is_leaf => k_is)
    (case c_is_leaf => k_is)
    (case k_is_leaf => k_is)
    (case a_is_loose_row => k_is)
    (case l_is_loose_row => k_is)
    (case c_is_loose_row => k_is)
    (case k_is_loose_row => k_is)
    (case a_ways_up => k_is)
    (case l_ways_up => k_is)
    (case c_ways_up => k_is)
    (case k_ways_up => k_is)
    (case a_goes_round => k_is)
    (case l_goes_round => k_is)
    (case c_goes_round => k_is)
    (case k_goes_round => k_is)
    (case a_are_loose_rows => k_is)
    (case l_are_loose_rows => k_is)
    (case c_are_loose_rows => k_is)
    (case k_are_loose_rows => k_is)
    (case a_single => k_is)
    (case l_single => k_is)
    (case c_single => k_is)
    (case k_single => k_is)
    (case a_next_out => k_is)
    (case l_next_out => k_is)
    (case c_next_out => k_is)
    (case k_next_out => k_is)
    (case a_without => k_is)
    (case l_without => k_is)
    (case c_without => k_is)
    (case k_without => k_is)
    (case a_reduced => k_is)
    (case l_reduced => k_is)
    (case c_reduced => k_is)
    (case k_reduced => k_is)
    (case a_depths => k_is)
    (case l_depths => k_is)
    (case c_depths => k_is)
    (case k_depths => k_is)
    (case a_numbered => k_is)
    (case l_numbered => k_is)
    (case c_numbered => k_is)
    (case k_numbered => k_is)
    (case a_is_fork_nets => k_is)
    (case l_is_fork_nets => k_is)
    (case c_is_fork_nets => k_is)
    (case k_is_fork_nets => k_is)
    (case a_is_row => k_is)
    (case l_is_row => k_is)
    (case c_is_row => k_is)
    (case k_is_row => k_is)
    (case a_joins_of => k_is)
    (case l_joins_of => k_is)
    (case c_joins_of => k_is)
    (case k_joins_of => k_is)
    (case a_all_ways => k_is)
    (case l_all_ways => k_is)
    (case c_all_ways => k_is)
    (case k_all_ways => k_is)
    (case a_are_led_to => k_is)
    (case l_are_led_to => k_is)
    (case c_are_led_to => k_is)
    (case k_are_led_to => k_is)
    (case a_is_net => k_is)
    (case l_is_net => k_is)
    (case c_is_net => k_is)
    (case k_is_net => k_is)
    (case a_net_of => k_is)
    (case l_net_of => k_is)
    (case c_net_of => k_is)
    (case k_net_of => k_is)
    (case a__law_moved_rows => k_is)
    (case l__law_moved_rows => k_is)
    (case c__law_moved_rows => k_is)
    (case k__law_moved_rows => k_is)
    (case a_choices_of => k_is)
    (case l_choices_of => k_is)
    (case c_choices_of => k_is)
    (case k_choices_of => k_is)
    (case a_first_name => k_is)
    (case l_first_name => k_is)
    (case c_first_name => k_is)
    (case k_first_name => k_is)
    (case a_is_fork_trees => k_is)
    (case l_is_fork_trees => k_is)
    (case c_is_fork_trees => k_is)
    (case k_is_fork_trees => k_is)
    (case a_standing => k_is)
    (case l_standing => k_is)
    (case c_standing => k_is)
    (case k_standing => k_is)
    (case a_is_tree => k_is)
    (case l_is_tree => k_is)
    (case c_is_tree => k_is)
    (case k_is_tree => k_is)
    (case a_fork_of => k_is)
    (case l_fork_of => k_is)
    (case c_fork_of => k_is)
    (case k_fork_of => k_is)
    (case a_ordered => k_is)
    (case l_ordered => k_is)
    (case c_ordered => k_is)
    (case k_ordered => k_is)
    (case a_set_right => k_is)
    (case l_set_right => k_is)
    (case c_set_right => k_is)
    (case k_set_right => k_is)
    (case a_shown_by => k_is)
    (case l_shown_by => k_is)
    (case c_shown_by => k_is)
    (case k_shown_by => k_is)
    (case a_shown => k_is)
    (case l_shown => k_is)
    (case c_shown => k_is)
    (case k_shown => k_is)
    (case a_tree_rows => k_is)
    (case l_tree_rows => k_is)
    (case c_tree_rows => k_is)
    (case k_tree_rows => k_is)
    (case a_net_of_tree => k_is)
    (case l_net_of_tree => k_is)
    (case c_net_of_tree => k_is)
    (case k_net_of_tree => k_is)
    (case a__law_right => k_is)
    (case l__law_right => k_is)
    (case c__law_right => k_is)
    (case k__law_right => k_is)
    (case a_law => k_is)
    (case l_law => k_is)
    (case c_law => k_is)
    (case k_law => k_is)
    (case ch => first | kernel_rfl | decide +kernel | rfl)
    (case nP => first | kernel_rfl | decide +kernel | rfl)
