import PyProof.Rows.All
import Wide.All
import OpenK.AllK
import Wide.FinOn
import HandS.ForMost
import HandS.ForExc
import HandS.Deep
import HandS.Style
import HandS.SortInts
import HandS.More
import HandS.Flow
import HandS.TupAny
import HandS.Wide
import HandS.SortOrd
import KE.GoesZip
import KE.GoesEnum
import KE.GoesEnumKw
import KE.KDictZip
import PyProof.ListNew
import HandS.ListItems
import HandS.Head2
import HandS.HeadEnd
import HandS.HeadHook1
import HandS.HeadHook2
import PySem.Challenge.RW_overlooks_k61_whole_one_code_at_a_time
set_option Elab.async false
set_option linter.all false
set_option maxRecDepth 100000
set_option maxHeartbeats 4000000
set_option autoImplicit false
/-! DL: a second layer over HandS: what a program does, told over plain data. -/
namespace DL
open PySem PySem.Spec PyProof.Rows L2

/-- a value: data, or the own cell j -/
inductive R where
  | d (x : PyData)
  | o (j : Nat)
  | s (ns : List Int)
/-- what an own cell holds -/
inductive Ct where
  | dead
  | lst (ds : List PyData)
  | dK (kvs : List (Key × PyData))
  | dT (kvs : List (List Key × PyData))
structure G where
  sl : List (Option R)
  ce : List Ct
abbrev DE := G → (R → G → Prop) → Prop
abbrev DT := G → (Bool → G → Prop) → Prop
abbrev DA := G → (List R → G → Prop) → Prop
structure DEnds where
  nx : G → Prop
  rt : R → G → Prop
  bk : G → Prop := fun _ => False
  ct : G → Prop := fun _ => False
abbrev DS := DEnds → G → Prop
abbrev DG := R → G → (G → Prop) → Prop

mutual
/-- v is the data x, every list and tuple tracked in B -/
inductive Dq (B : Hp) : V → PyData → Prop
  | non : Dq B .non .none
  | bl (b : Bool) : Dq B (.bl b) (.bool b)
  | int (i : Int) : Dq B (.int i) (.int i)
  | str (x : Str) : Dq B (.str x) (.str x)
  | lst {a : Addr} {xs : List V} {ds : List PyData} : B a = some (.lst xs) → DqAll B xs ds → Dq B (.ref a) (.list ds)
  | tup {a : Addr} {xs : List V} {ds : List PyData} : B a = some (.tup xs) → DqAll B xs ds → Dq B (.ref a) (.tuple ds)
inductive DqAll (B : Hp) : List V → List PyData → Prop
  | nil : DqAll B [] []
  | cons {v : V} {vs : List V} {d : PyData} {ds : List PyData} : Dq B v d → DqAll B vs ds → DqAll B (v :: vs) (d :: ds)
end
def RvOk (K : PySem.W.Frag) (B : Hp) (al : List Addr) (v : V) : R → Prop
  | .d x => Dq B v x
  | .s ns => ∃ a, v = .ref a ∧ SqL K B a (ns.map V.int)
  | .o j => ∃ a, al[j]? = some a ∧ v = .ref a
def CtOk (K : PySem.W.Frag) (B : Hp) (al : List Addr) (H : Hp) (a : Addr) : Ct → Prop
  | .dead => True
  | .lst ds => ∃ xs, H a = some (.lst xs) ∧ DqAll B xs ds
  | .dK kvs => ∃ us, H a = some (.dK us) ∧ Paired (fun (p : Key × V) (q : Key × PyData) => p.1 = q.1 ∧ Dq B p.2 q.2) us kvs
  | .dT kvs => ∃ us, H a = some (.dT us) ∧ Paired (fun (p : List Key × V) (q : List Key × PyData) => p.1 = q.1 ∧ Dq B p.2 q.2) us kvs
/-- the callers: shared facts, own things, the cells handed in -/
structure Fm where
  B : Hp
  O : Hp
  P : List Addr
structure Stt (K : PySem.W.Frag) (F : Fm) (g : G) (ts : List (V × R)) (s : L2.St) (H B : Hp) (al : List Addr) : Prop where
  fb : Same F.B B
  bh : Same B H
  fo : ∀ a o, F.O a = some o → H a = some o ∧ B a = none ∧ a ∉ al
  pre : ∃ t, al = F.P ++ t
  len : al.length = g.ce.length
  nd : al.Nodup
  lv : ∀ a ∈ al, ∃ o, H a = some o
  nb : ∀ (j : Nat) (a : Addr) (ct : Ct), al[j]? = some a → g.ce[j]? = some ct → ct ≠ Ct.dead → B a = none
  ce : ∀ (j : Nat) (a : Addr) (ct : Ct), al[j]? = some a → g.ce[j]? = some ct → CtOk K B al H a ct
  sl : ∀ (i : Nat) (r : R), g.sl[i]? = some (some r) → ∃ v, s[i]? = some (some v) ∧ RvOk K B al v r
  tm : ∀ p ∈ ts, RvOk K B al p.1 p.2
  sln : g.sl.length = s.length

/-! ### data under a growing heap -/
theorem same_l {K : PySem.W.Frag} {H H' : Hp} {a : Addr} {xs : List V} (e : Same H H') (h : SqL K H a xs) : SqL K H' a xs := e.seq h
theorem same_t {K : PySem.W.Frag} {H H' : Hp} {a : Addr} {xs : List V} (e : Same H H') (h : SqT K H a xs) : SqT K H' a xs := by
  rcases h with (h | ⟨o, h⟩) | h
  · exact .inl (.inl (e _ _ h))
  · exact .inl (.inr ⟨o, e _ _ h⟩)
  · exact .inr h
mutual
theorem dq_mono {H H' : Hp} (e : Same H H') : ∀ {v : V} {x : PyData}, Dq H v x → Dq H' v x
  | _, _, .non => .non
  | _, _, .bl b => .bl b
  | _, _, .int i => .int i
  | _, _, .str x => .str x
  | _, _, .lst h r => .lst (e _ _ h) (dqall_mono e r)
  | _, _, .tup h r => .tup (e _ _ h) (dqall_mono e r)
theorem dqall_mono {H H' : Hp} (e : Same H H') : ∀ {vs : List V} {xs : List PyData}, DqAll H vs xs → DqAll H' vs xs
  | _, _, .nil => .nil
  | _, _, .cons a b => .cons (dq_mono e a) (dqall_mono e b)
end
mutual
theorem dq_dp {K : PySem.W.Frag} {H : Hp} : ∀ {v : V} {x : PyData}, Dq H v x → Dp K H v x
  | _, _, .non => .non
  | _, _, .bl b => .bl b
  | _, _, .int i => .int i
  | _, _, .str x => .str x
  | _, _, .lst h r => .lst (.inl (.inl h)) (dqall_dp r)
  | _, _, .tup h r => .tup (.inl (.inl h)) (dqall_dp r)
theorem dqall_dp {K : PySem.W.Frag} {H : Hp} : ∀ {vs : List V} {xs : List PyData}, DqAll H vs xs → DpAll K H vs xs
  | _, _, .nil => .nil
  | _, _, .cons a b => .cons (dq_dp a) (dqall_dp b)
end
theorem same_new {H : Hp} {p : Addr} {o : HO} (h : H p = none) : Same H (upd H p o) := fun b x e => by
  rw [upd_ne (ne_of_none e h)]
  exact e
theorem same_mut {H H' : Hp} {p : Addr} {o : HO} (e : Same H H') (h : H p = none) : Same H (upd H' p o) := fun b x q => by
  rw [upd_ne (ne_of_none q h)]
  exact e _ _ q
theorem rv_mono {K : PySem.W.Frag} {B B' : Hp} {al t : List Addr} {v : V} {r : R} (e : Same B B') (h : RvOk K B al v r) : RvOk K B' (al ++ t) v r := by
  cases r with
  | d x => exact dq_mono e h
  | s ns =>
    obtain ⟨a, hv, h2⟩ := h
    exact ⟨a, hv, same_l e h2⟩
  | o j =>
    obtain ⟨a, ha, hv⟩ := h
    refine ⟨a, ?_, hv⟩
    rw [List.getElem?_append_left (List.getElem?_eq_some_iff.mp ha).1]
    exact ha
theorem rv_mono0 {K : PySem.W.Frag} {B B' : Hp} {al : List Addr} {v : V} {r : R} (e : Same B B') (h : RvOk K B al v r) : RvOk K B' al v r := by
  have z := rv_mono (t := []) e h
  rw [List.append_nil] at z
  exact z
theorem paired_imp {α β : Type} {F F' : α → β → Prop} (h : ∀ a b, F a b → F' a b) : ∀ {xs : List α} {ys : List β}, Paired F xs ys → Paired F' xs ys
  | _, _, .nil => .nil
  | _, _, .cons a b => .cons (h _ _ a) (paired_imp h b)
/-- a cell's fact under a growing base, the cell itself as it was -/
theorem ct_mono {K : PySem.W.Frag} {B B' H H' : Hp} {al t : List Addr} {a : Addr} {ct : Ct} (e : Same B B') (hh : ∀ o, H a = some o → H' a = some o) (h : CtOk K B al H a ct) : CtOk K B' (al ++ t) H' a ct := by
  cases ct with
  | dead => trivial
  | lst rs =>
    obtain ⟨xs, h1, h2⟩ := h
    exact ⟨xs, hh _ h1, dqall_mono e h2⟩
  | dK kvs =>
    obtain ⟨xs, h1, h2⟩ := h
    exact ⟨xs, hh _ h1, paired_imp (fun _ _ z => ⟨z.1, dq_mono e z.2⟩) h2⟩
  | dT kvs =>
    obtain ⟨xs, h1, h2⟩ := h
    exact ⟨xs, hh _ h1, paired_imp (fun _ _ z => ⟨z.1, dq_mono e z.2⟩) h2⟩
theorem ct_mono0 {K : PySem.W.Frag} {B B' H H' : Hp} {al : List Addr} {a : Addr} {ct : Ct} (e : Same B B') (hh : ∀ o, H a = some o → H' a = some o) (h : CtOk K B al H a ct) : CtOk K B' al H' a ct := by
  have z := ct_mono (t := []) e hh h
  rw [List.append_nil] at z
  exact z

section
variable {K : PySem.W.Frag} {F : Fm} {g : G} {tm tm' : List (V × R)} {s : L2.St} {H B : Hp} {al : List Addr}
theorem Stt.temps (S : Stt K F g tm s H B al) (h : ∀ p ∈ tm', p ∈ tm) : Stt K F g tm' s H B al := { S with tm := fun p q => S.tm p (h p q) }
theorem Stt.push (S : Stt K F g tm s H B al) {v : V} {r : R} (h : RvOk K B al v r) : Stt K F g ((v, r) :: tm) s H B al :=
  { S with tm := fun p q => (List.mem_cons.mp q).elim (fun e => by rw [e]; exact h) (fun e => S.tm p e) }
theorem Stt.top (S : Stt K F g tm s H B al) {p : V × R} {t : List (V × R)} (e : tm = p :: t) : RvOk K B al p.1 p.2 := S.tm p (by rw [e]; exact List.mem_cons_self)
theorem Stt.new_out (S : Stt K F g tm s H B al) {p : Addr} (h : H p = none) : p ∉ al := fun q => by
  obtain ⟨o, e⟩ := S.lv p q
  rw [e] at h
  cases h
/-- a new shared object (the base grows) -/
theorem Stt.grow (S : Stt K F g tm s H B al) {p : Addr} {o : HO} (h : H p = none) : Stt K F g tm s (upd H p o) (upd B p o) al := by
  have hB : B p = none := S.bh.free h
  have eB : Same B (upd B p o) := same_new hB
  have eH : Same H (upd H p o) := same_new h
  have nal := S.new_out h
  refine { fb := S.fb.trans eB, bh := ?_, fo := ?_, pre := S.pre, len := S.len, nd := S.nd, lv := ?_, nb := ?_, ce := ?_, sl := ?_, tm := ?_, sln := S.sln }
  · intro b u e
    by_cases hb : b = p
    · subst hb; rw [upd_same] at e ⊢; exact e
    · rw [upd_ne hb] at e ⊢; exact S.bh _ _ e
  · intro a u e
    obtain ⟨h1, h2, h3⟩ := S.fo a u e
    have ne : a ≠ p := ne_of_none h1 h
    exact ⟨eH _ _ h1, by rw [upd_ne ne]; exact h2, h3⟩
  · intro a ha
    obtain ⟨u, e⟩ := S.lv a ha
    exact ⟨u, eH _ _ e⟩
  · intro j a ct h1 h2 h3
    have ne : a ≠ p := fun z => nal (z ▸ List.mem_of_getElem? h1)
    rw [upd_ne ne]
    exact S.nb j a ct h1 h2 h3
  · intro j a ct h1 h2
    exact ct_mono0 eB (fun u e => eH _ _ e) (S.ce j a ct h1 h2)
  · intro i r e
    obtain ⟨v, h1, h2⟩ := S.sl i r e
    exact ⟨v, h1, rv_mono0 eB h2⟩
  · intro q hq
    exact rv_mono0 eB (S.tm q hq)
/-- a new own cell -/
theorem Stt.own (S : Stt K F g tm s H B al) {p : Addr} {o : HO} {ct : Ct} (h : H p = none) (hc : CtOk K B al (upd H p o) p ct) : Stt K F { g with ce := g.ce ++ [ct] } tm s (upd H p o) B (al ++ [p]) := by
  have hB : B p = none := S.bh.free h
  have eH : Same H (upd H p o) := same_new h
  have nal := S.new_out h
  obtain ⟨t, ht⟩ := S.pre
  refine { fb := S.fb, bh := S.bh.trans eH, fo := ?_, pre := ⟨t ++ [p], by rw [ht, List.append_assoc]⟩, len := by rw [List.length_append, List.length_append, S.len]; rfl, nd := ?_, lv := ?_, nb := ?_, ce := ?_, sl := ?_, tm := ?_, sln := S.sln }
  · intro a u e
    obtain ⟨h1, h2, h3⟩ := S.fo a u e
    refine ⟨eH _ _ h1, h2, fun z => ?_⟩
    rcases List.mem_append.mp z with z | z
    · exact h3 z
    · rw [List.mem_singleton.mp z, h] at h1
      cases h1
  · refine List.nodup_append.mpr ⟨S.nd, by simp, fun a ha b hb => ?_⟩
    rw [List.mem_singleton.mp hb]
    exact fun z => nal (z ▸ ha)
  · intro a ha
    rcases List.mem_append.mp ha with z | z
    · obtain ⟨u, e⟩ := S.lv a z
      exact ⟨u, eH _ _ e⟩
    · rw [List.mem_singleton.mp z]
      exact ⟨o, upd_same⟩
  · intro j a c h1 h2 h3
    by_cases hj : j < al.length
    · rw [List.getElem?_append_left hj] at h1
      rw [List.getElem?_append_left (by rw [← S.len]; exact hj)] at h2
      exact S.nb j a c h1 h2 h3
    · rw [List.getElem?_append_right (by omega)] at h1
      have : a = p := by
        have z := List.mem_of_getElem? h1
        exact List.mem_singleton.mp z
      rw [this]; exact hB
  · intro j a c h1 h2
    by_cases hj : j < al.length
    · rw [List.getElem?_append_left hj] at h1
      rw [List.getElem?_append_left (by rw [← S.len]; exact hj)] at h2
      exact ct_mono (Same.refl B) (fun u e => eH _ _ e) (S.ce j a c h1 h2)
    · rw [List.getElem?_append_right (by omega)] at h1
      rw [List.getElem?_append_right (by rw [← S.len]; omega)] at h2
      have e1 : a = p := List.mem_singleton.mp (List.mem_of_getElem? h1)
      have e2 : c = ct := List.mem_singleton.mp (List.mem_of_getElem? h2)
      subst e1 e2
      exact ct_mono (Same.refl B) (fun u e => e) hc
  · intro i r e
    obtain ⟨v, h1, h2⟩ := S.sl i r e
    exact ⟨v, h1, rv_mono (Same.refl B) h2⟩
  · intro q hq
    exact rv_mono (Same.refl B) (S.tm q hq)
theorem Stt.own_at (S : Stt K F g tm s H B al) {p : Addr} : (al ++ [p])[g.ce.length]? = some p := by
  rw [← S.len, List.getElem?_append_right (Nat.le_refl _), Nat.sub_self]
  rfl
/-- an own cell is changed -/
theorem Stt.put (S : Stt K F g tm s H B al) {j : Nat} {a : Addr} {o : HO} {ct ct' : Ct} (ha : al[j]? = some a) (hc : g.ce[j]? = some ct) (nd : ct ≠ Ct.dead) (hk : CtOk K B al (upd H a o) a ct') : Stt K F { g with ce := g.ce.set j ct' } tm s (upd H a o) B al := by
  have hB := S.nb j a ct ha hc nd
  have ma := List.mem_of_getElem? ha
  refine { fb := S.fb, bh := same_mut S.bh hB, fo := ?_, pre := S.pre, len := by rw [List.length_set]; exact S.len, nd := S.nd, lv := ?_, nb := ?_, ce := ?_, sl := S.sl, tm := S.tm, sln := S.sln }
  · intro b u e
    obtain ⟨h1, h2, h3⟩ := S.fo b u e
    have ne : b ≠ a := fun z => h3 (z ▸ ma)
    exact ⟨by rw [upd_ne ne]; exact h1, h2, h3⟩
  · intro b hb
    by_cases e : b = a
    · rw [e]; exact ⟨o, upd_same⟩
    · rw [upd_ne e]; exact S.lv b hb
  · intro i b c h1 h2 h3
    by_cases e : i = j
    · subst e
      rw [ha] at h1
      cases h1
      exact hB
    · rw [List.getElem?_set_ne (Ne.symm e)] at h2
      exact S.nb i b c h1 h2 h3
  · intro i b c h1 h2
    by_cases e : i = j
    · subst e
      rw [ha] at h1
      cases h1
      rw [List.getElem?_set_self (List.getElem?_eq_some_iff.mp hc).1] at h2
      cases h2
      exact hk
    · rw [List.getElem?_set_ne (Ne.symm e)] at h2
      have ne : b ≠ a := fun z => by
        subst z
        exact e ((List.getElem?_inj (List.getElem?_eq_some_iff.mp h1).1 S.nd).mp (h1.trans ha.symm))
      refine ct_mono0 (Same.refl B) (fun u q => ?_) (S.ce i b c h1 h2)
      rw [upd_ne ne]; exact q
/-- a slot is set -/
theorem Stt.store (S : Stt K F g tm s H B al) {i : Nat} {v : V} {r : R} (h : RvOk K B al v r) : Stt K F { g with sl := g.sl.set i (some r) } tm (s.set i (some v)) H B al := by
  refine { S with sl := ?_, sln := by rw [List.length_set, List.length_set]; exact S.sln }
  intro k q e
  by_cases hk : i = k
  · subst hk
    by_cases hl : i < g.sl.length
    · rw [List.getElem?_set_self hl] at e
      cases e
      exact ⟨v, List.getElem?_set_self (by rw [← S.sln]; exact hl), h⟩
    · rw [List.getElem?_eq_none (by rw [List.length_set]; omega)] at e
      cases e
  · rw [List.getElem?_set_ne hk] at e
    rw [List.getElem?_set_ne hk]
    exact S.sl k q e
end

/-! ### expressions -/
def lift (K : PySem.W.Frag) (de : DE) : TE := fun s H Q => ∃ F g tm k B al, Stt K F g tm s H B al ∧ de g k ∧ ∀ v H' r g' B' al', k r g' → Stt K F g' ((v, r) :: tm) s H' B' al' → Q v H'
def liftT (K : PySem.W.Frag) (dt : DT) : TT := fun s H Q => ∃ F g tm k B al, Stt K F g tm s H B al ∧ dt g k ∧ ∀ b H' g' B' al', k b g' → Stt K F g' tm s H' B' al' → Q b H'
def liftA (K : PySem.W.Frag) (da : DA) : TA := fun s H Q => ∃ F g tm k B al, Stt K F g tm s H B al ∧ da g k ∧ ∀ vs H' rs g' B' al', k rs g' → Stt K F g' tm s H' B' al' → Paired (RvOk K B' al') vs rs → Q vs H'
structure DEndsOk (K : PySem.W.Frag) (F : Fm) (tm : List (V × R)) (E : DEnds) (D : Ends) : Prop where
  nx : ∀ s H g B al, E.nx g → Stt K F g tm s H B al → D.nx s H
  rt : ∀ s v H r g B al, E.rt r g → Stt K F g ((v, r) :: tm) s H B al → D.rt v H
  bk : ∀ s H g B al, E.bk g → Stt K F g tm s H B al → D.bk s H
  ct : ∀ s H g B al, E.ct g → Stt K F g tm s H B al → D.ct s H
def liftS (K : PySem.W.Frag) (ds : DS) : TS := fun D s H => ∃ F g tm E B al, Stt K F g tm s H B al ∧ ds E g ∧ DEndsOk K F tm E D
abbrev PD (X : Cx) (e : Expr) (de : DE) : Prop := PE X e (lift X.K de)
abbrev PDT (X : Cx) (e : Expr) (dt : DT) : Prop := PT X e (liftT X.K dt)
abbrev PDA (X : Cx) (es : List Expr) (da : DA) : Prop := PA X es (liftA X.K da)
abbrev PDS (X : Cx) (st : Stmt) (ds : DS) : Prop := PS X st (liftS X.K ds)
abbrev PDSs (X : Cx) (st : List Stmt) (ds : DS) : Prop := PSs X st (liftS X.K ds)
section
variable {X : Cx} {e a b c : Expr} {pos : Pos}
theorem pe_imp {t t' : TE} (h : PE X e t) (i : ∀ s H Q, t' s H Q → t s H Q) : PE X e t' := ⟨fun pins s σ H Q I q => h.run pins s σ H Q I (i σ H Q q)⟩
theorem pt_imp {t t' : TT} (h : PT X e t) (i : ∀ s H Q, t' s H Q → t s H Q) : PT X e t' := ⟨fun pins s σ H Q I q => h.run pins s σ H Q I (i σ H Q q)⟩
theorem pa_imp {es : List Expr} {t t' : TA} (h : PA X es t) (i : ∀ s H Q, t' s H Q → t s H Q) : PA X es t' := ⟨fun p pins s σ H Q I q => h.run p pins s σ H Q I (i σ H Q q)⟩
theorem ps_imp {st : Stmt} {t t' : TS} (h : PS X st t) (i : ∀ D s H, t' D s H → t D s H) : PS X st t' := ⟨fun pins s σ H D I q => h.run pins s σ H D I (i D σ H q)⟩
theorem pss_imp {st : List Stmt} {t t' : TS} (h : PSs X st t) (i : ∀ D s H, t' D s H → t D s H) : PSs X st t' := ⟨fun pins s σ H D I q => h.run pins s σ H D I (i D σ H q)⟩

def dVar (i : Nat) : DE := fun g k => ∃ r, g.sl[i]? = some (some r) ∧ k r g
theorem pd_var (i : Nat) {x : Str} (hN : X.N[i]? = some x := by rfl) (hv : Vis X.env.scope x := by first | exact Or.inl rfl | exact Or.inr (Or.inl rfl) | exact Or.inr (Or.inr rfl)) (hd : (x == ("__debug__" : Str)) = false := by decide)
    (hcd : (x == ("__classdict__" : Str)) = false := by decide) : PD X (.Name x pos) (dVar i) :=
  pe_imp (pe_var hN hv hd hcd) fun s H Q ⟨F, g, tm, k, B, al, S, ⟨r, hr, hk⟩, q⟩ => by
    obtain ⟨v, h1, h2⟩ := S.sl i r hr
    exact ⟨v, h1, q v H r g B al hk (S.push h2)⟩
def dC (x : PyData) : DE := fun g k => k (.d x) g
theorem ref_c {K : PySem.W.Frag} {v : V} {x : PyData} (h : ∀ B, Dq B v x) : ∀ s H Q, lift K (dC x) s H Q → tC v s H Q :=
  fun s H Q ⟨F, g, tm, k, B, al, S, hk, q⟩ => q v H (.d x) g B al hk (S.push (h B))
theorem pd_int {i : Int} {j : Nat} : PD X (.Constant (.int i) j pos) (dC (.int i)) := pe_imp pe_int (ref_c fun B => .int i)
theorem pd_bool {i : Bool} {j : Nat} : PD X (.Constant (.bool i) j pos) (dC (.bool i)) := pe_imp pe_bl (ref_c fun B => .bl i)
theorem pd_none {j : Nat} : PD X (.Constant .none j pos) (dC .none) := pe_imp pe_non (ref_c fun B => .non)
theorem pd_str {i : Str} {j : Nat} : PD X (.Constant (.str i) j pos) (dC (.str i)) := pe_imp pe_str (ref_c fun B => .str i)
theorem pd_globI {x : Str} {i : Int} {u : Value} (hg : Gl X x) (hm : X.mg x = some u) (r : RelV (.int i) u) (hd : (x == ("__debug__" : Str)) = false := by decide) : PD X (.Name x pos) (dC (.int i)) := pe_imp (pe_glob hg hm r hd) (ref_c fun B => .int i)

/-! two-place operations -/
abbrev D2 := R → R → G → (R → G → Prop) → Prop
def RefOp (K : PySem.W.Frag) (r : R2) (dr : D2) : Prop := ∀ F g tm s H B al x y r1 r2 k Q, Stt K F g tm s H B al → RvOk K B al x r1 → RvOk K B al y r2 → dr r1 r2 g k →
  (∀ v H' r g' B' al', k r g' → Stt K F g' tm s H' B' al' → RvOk K B' al' v r → Q v H') → r x y H Q
def dOp (dr : D2) (da db : DE) : DE := fun g k => da g fun r1 g1 => db g1 fun r2 g2 => dr r1 r2 g2 k
theorem ref_op {K : PySem.W.Frag} {r : R2} {dr : D2} {da db : DE} (h : RefOp K r dr) : ∀ s H Q, lift K (dOp dr da db) s H Q → tOp r (lift K da) (lift K db) s H Q :=
  fun s H Q ⟨F, g, tm, k, B, al, S, hk, q⟩ => ⟨F, g, tm, _, B, al, S, hk, fun x H1 r1 g1 B1 al1 hk1 S1 => ⟨F, g1, (x, r1) :: tm, _, B1, al1, S1, hk1, fun y H2 r2 g2 B2 al2 hk2 S2 =>
    h F g2 tm s H2 B2 al2 x y r1 r2 k Q (S2.temps fun p hp => List.mem_cons_of_mem _ (List.mem_cons_of_mem _ hp)) (S2.tm (x, r1) (by simp)) (S2.tm (y, r2) (by simp)) hk2 fun v H' r g' B' al' hr S' rv => q v H' r g' B' al' hr (S'.push rv)⟩⟩
theorem pd_op {op : Operator} {r : R2} {dr : D2} {da db : DE} (ho : OpR X (binaryOp op) r) (h : RefOp X.K r dr) (ha : PD X a da) (hb : PD X b db) : PD X (.BinOp a op b pos) (dOp dr da db) :=
  pe_imp (pe_op ho ha hb) (ref_op h)
theorem pd_cmp {op : CmpOp} {r : R2} {dr : D2} {da db : DE} (ho : OpR X (compareOp op) r) (hm : behindInMarks op b = false) (h : RefOp X.K r dr) (ha : PD X a da) (hb : PD X b db) : PD X (.Compare a [op] [b] pos) (dOp dr da db) :=
  pe_imp (pe_cmpR ho ha hb hm) (ref_op h)
end
end DL

set_option Elab.async false
set_option linter.all false
set_option maxRecDepth 100000
set_option maxHeartbeats 4000000
set_option autoImplicit false
namespace DL
open PySem PySem.Spec PyProof.Rows L2

/-! ### what data is at a value -/
theorem dq_int {B : Hp} {v : V} {i : Int} (h : Dq B v (.int i)) : v = .int i := by cases h; rfl
theorem dq_bool {B : Hp} {v : V} {i : Bool} (h : Dq B v (.bool i)) : v = .bl i := by cases h; rfl
theorem dq_none {B : Hp} {v : V} (h : Dq B v .none) : v = .non := by cases h; rfl
theorem dq_str {B : Hp} {v : V} {i : Str} (h : Dq B v (.str i)) : v = .str i := by cases h; rfl
theorem dq_list {B : Hp} {v : V} {ds : List PyData} (h : Dq B v (.list ds)) : ∃ a xs, v = .ref a ∧ B a = some (.lst xs) ∧ DqAll B xs ds := by
  cases h with
  | lst h1 h2 => exact ⟨_, _, rfl, h1, h2⟩
theorem dq_tup {B : Hp} {v : V} {ds : List PyData} (h : Dq B v (.tuple ds)) : ∃ a xs, v = .ref a ∧ B a = some (.tup xs) ∧ DqAll B xs ds := by
  cases h with
  | tup h1 h2 => exact ⟨_, _, rfl, h1, h2⟩
theorem dqall_len {B : Hp} : ∀ {xs : List V} {ds : List PyData}, DqAll B xs ds → xs.length = ds.length
  | _, _, .nil => rfl
  | _, _, .cons _ t => by rw [List.length_cons, List.length_cons, dqall_len t]
theorem dqall_get {B : Hp} : ∀ {xs : List V} {ds : List PyData} {i : Nat} {d : PyData}, DqAll B xs ds → ds[i]? = some d → ∃ x, xs[i]? = some x ∧ Dq B x d
  | _, _, _, _, .nil, e => by simp at e
  | _, _, 0, _, .cons r _, e => by
    simp at e
    subst e
    exact ⟨_, rfl, r⟩
  | _, _, i + 1, d, .cons _ t, e => by
    obtain ⟨u, h1, h2⟩ := dqall_get (i := i) (d := d) t (by simpa using e)
    exact ⟨u, by simpa using h1, h2⟩
theorem dqall_getV {B : Hp} : ∀ {xs : List V} {ds : List PyData} {i : Nat} {x : V}, DqAll B xs ds → xs[i]? = some x → ∃ d, ds[i]? = some d ∧ Dq B x d
  | _, _, _, _, .nil, e => by simp at e
  | _, _, 0, _, .cons r _, e => by
    simp at e
    subst e
    exact ⟨_, rfl, r⟩
  | _, _, i + 1, d, .cons _ t, e => by
    obtain ⟨u, h1, h2⟩ := dqall_getV (i := i) (x := d) t (by simpa using e)
    exact ⟨u, by simpa using h1, h2⟩
theorem dqall_app {B : Hp} : ∀ {xs ys : List V} {ds es : List PyData}, DqAll B xs ds → DqAll B ys es → DqAll B (xs ++ ys) (ds ++ es)
  | _, _, _, _, .nil, s => s
  | _, _, _, _, .cons r t, s => .cons r (dqall_app t s)
theorem dqall_take {B : Hp} : ∀ {xs : List V} {ds : List PyData} (n : Nat), DqAll B xs ds → DqAll B (xs.take n) (ds.take n)
  | _, _, 0, _ => .nil
  | _, _, _ + 1, .nil => .nil
  | _, _, n + 1, .cons r t => .cons r (dqall_take n t)
theorem dqall_drop {B : Hp} : ∀ {xs : List V} {ds : List PyData} (n : Nat), DqAll B xs ds → DqAll B (xs.drop n) (ds.drop n)
  | _, _, 0, r => r
  | _, _, _ + 1, .nil => .nil
  | _, _, n + 1, .cons _ t => dqall_drop n t
theorem dqall_rev {B : Hp} : ∀ {xs : List V} {ds : List PyData}, DqAll B xs ds → DqAll B xs.reverse ds.reverse
  | _, _, .nil => .nil
  | _, _, .cons r t => by
    rw [List.reverse_cons, List.reverse_cons]
    exact dqall_app (dqall_rev t) (.cons r .nil)
theorem dqall_set {B : Hp} {x : V} {d : PyData} (r : Dq B x d) : ∀ {xs : List V} {ds : List PyData} (i : Nat), DqAll B xs ds → DqAll B (xs.set i x) (ds.set i d)
  | _, _, _, .nil => .nil
  | _, _, 0, .cons _ t => .cons r t
  | _, _, i + 1, .cons q t => .cons q (dqall_set r i t)
theorem dqall_erase {B : Hp} : ∀ {xs : List V} {ds : List PyData} (i : Nat), DqAll B xs ds → DqAll B (xs.eraseIdx i) (ds.eraseIdx i)
  | _, _, _, .nil => .nil
  | _, _, 0, .cons _ t => t
  | _, _, i + 1, .cons q t => .cons q (dqall_erase i t)
theorem dqall_ints {B : Hp} : ∀ {xs : List V} {ns : List Int}, DqAll B xs (ns.map .int) → xs = ns.map V.int
  | _, [], .nil => rfl
  | _, n :: ns, .cons r t => by
    rw [dq_int r, dqall_ints t]
    rfl
theorem dqall_mkints {B : Hp} : ∀ (ns : List Int), DqAll B (ns.map V.int) (ns.map .int)
  | [] => .nil
  | n :: ns => .cons (.int n) (dqall_mkints ns)
theorem dqall_bools {B : Hp} : ∀ {xs : List V} {ns : List Bool}, DqAll B xs (ns.map .bool) → xs = ns.map V.bl
  | _, [], .nil => rfl
  | _, n :: ns, .cons r t => by
    rw [dq_bool r, dqall_bools t]
    rfl
theorem dqall_paired {K : PySem.W.Frag} {B : Hp} {al : List Addr} : ∀ {xs : List V} {ds : List PyData}, Paired (RvOk K B al) xs (ds.map .d) → DqAll B xs ds
  | _, [], .nil => .nil
  | _, d :: ds, .cons r t => .cons r (dqall_paired t)

/-- the items of a sequence; true: a tuple -/
def seqOf (g : G) : R → Option (Bool × List PyData)
  | .d (.list ds) => some (false, ds)
  | .d (.tuple ds) => some (true, ds)
  | .s ns => some (false, ns.map .int)
  | .o j => match g.ce[j]? with
    | some (.lst ds) => some (false, ds)
    | _ => none
  | _ => none
def SqB (K : PySem.W.Frag) (t : Bool) (H : Hp) (a : Addr) (xs : List V) : Prop := match t with
  | true => SqT K H a xs
  | false => SqL K H a xs
section
variable {K : PySem.W.Frag} {F : Fm} {g : G} {tm : List (V × R)} {s : L2.St} {H B : Hp} {al : List Addr}
theorem Stt.seq (S : Stt K F g tm s H B al) {v : V} {r : R} {t : Bool} {ds : List PyData} (hv : RvOk K B al v r) (h : seqOf g r = some (t, ds)) : ∃ a xs, v = .ref a ∧ SqB K t H a xs ∧ DqAll B xs ds := by
  cases r with
  | d x =>
    cases x with
    | list es =>
      have e : (false, es) = (t, ds) := Option.some.inj h
      cases e
      obtain ⟨a, xs, e1, e2, e3⟩ := dq_list hv
      exact ⟨a, xs, e1, .inl (.inl (S.bh _ _ e2)), e3⟩
    | tuple es =>
      have e : (true, es) = (t, ds) := Option.some.inj h
      cases e
      obtain ⟨a, xs, e1, e2, e3⟩ := dq_tup hv
      exact ⟨a, xs, e1, .inl (.inl (S.bh _ _ e2)), e3⟩
    | _ => cases h
  | s ns =>
    have e : (false, ns.map PyData.int) = (t, ds) := Option.some.inj h
    cases e
    obtain ⟨a, e1, e2⟩ := hv
    exact ⟨a, ns.map V.int, e1, same_l S.bh e2, dqall_mkints ns⟩
  | o j =>
    obtain ⟨a, e1, e2⟩ := hv
    cases hc : g.ce[j]? with
    | none =>
      have h' : (match g.ce[j]? with | some (.lst ds) => some (false, ds) | _ => none) = some (t, ds) := h
      rw [hc] at h'
      cases h'
    | some ct =>
      have h' : (match g.ce[j]? with | some (.lst ds) => some (false, ds) | _ => none) = some (t, ds) := h
      rw [hc] at h'
      cases ct with
      | lst es =>
        cases h'
        obtain ⟨xs, q1, q2⟩ := S.ce j a _ e1 hc
        exact ⟨a, xs, e2, .inl (.inl q1), q2⟩
      | dead => cases h'
      | dK kvs => cases h'
      | dT kvs => cases h'
/-- an own list, a shared list: not the script -/
def isMade : R → Bool
  | .s _ => false
  | _ => true
theorem Stt.seqM (S : Stt K F g tm s H B al) {v : V} {r : R} {ds : List PyData} (hv : RvOk K B al v r) (h : seqOf g r = some (false, ds)) (hm : isMade r = true) : ∃ a xs, v = .ref a ∧ H a = some (.lst xs) ∧ DqAll B xs ds := by
  cases r with
  | d x =>
    cases x with
    | list es =>
      have e : (false, es) = (false, ds) := Option.some.inj h
      cases e
      obtain ⟨a, xs, e1, e2, e3⟩ := dq_list hv
      exact ⟨a, xs, e1, S.bh _ _ e2, e3⟩
    | _ => cases h
  | s ns => cases hm
  | o j =>
    obtain ⟨a, e1, e2⟩ := hv
    cases hc : g.ce[j]? with
    | none =>
      have h' : (match g.ce[j]? with | some (.lst ds) => some (false, ds) | _ => none) = some (false, ds) := h
      rw [hc] at h'
      cases h'
    | some ct =>
      have h' : (match g.ce[j]? with | some (.lst ds) => some (false, ds) | _ => none) = some (false, ds) := h
      rw [hc] at h'
      cases ct with
      | lst es =>
        cases h'
        obtain ⟨xs, q1, q2⟩ := S.ce j a _ e1 hc
        exact ⟨a, xs, e2, q1, q2⟩
      | dead => cases h'
      | dK kvs => cases h'
      | dT kvs => cases h'
end
theorem SqB.or {K : PySem.W.Frag} {t : Bool} {H : Hp} {a : Addr} {xs : List V} (h : SqB K t H a xs) : SqL K H a xs ∨ SqT K H a xs := by
  cases t with
  | true => exact .inr h
  | false => exact .inl h

/-! ### arguments -/
section
variable {X : Cx} {e a b c : Expr} {es : List Expr} {pos : Pos}
def dNil : DA := fun g k => k [] g
def dCons (de : DE) (da : DA) : DA := fun g k => de g fun r g1 => da g1 fun rs g2 => k (r :: rs) g2
theorem pda_nil : PDA X [] dNil := pa_imp pa_nil fun s H Q ⟨F, g, tm, k, B, al, S, hk, q⟩ => q [] H [] g B al hk S .nil
theorem pda_cons {de : DE} {da : DA} (ha : PD X e de) (hr : PDA X es da) (hs : starEach (e :: es) X.env = (false, eval e X.env) :: starEach es X.env := by rfl) : PDA X (e :: es) (dCons de da) :=
  pa_imp (pa_cons ha hr hs) fun s H Q ⟨F, g, tm, k, B, al, S, hk, q⟩ => ⟨F, g, tm, _, B, al, S, hk, fun x H1 r1 g1 B1 al1 hk1 S1 => ⟨F, g1, (x, r1) :: tm, _, B1, al1, S1, hk1, fun vs H2 rs g2 B2 al2 hk2 S2 pr =>
    q (x :: vs) H2 (r1 :: rs) g2 B2 al2 hk2 (S2.temps fun p hp => List.mem_cons_of_mem _ hp) (.cons (S2.tm (x, r1) List.mem_cons_self) pr)⟩⟩

/-! ### calls of built-ins -/
abbrev DCl := List R → G → (R → G → Prop) → Prop
def RefC (K : PySem.W.Frag) (r : List V → Hp → VK → Prop) (dr : DCl) : Prop := ∀ F g tm s H B al vs rs k Q, Stt K F g tm s H B al → Paired (RvOk K B al) vs rs → dr rs g k →
  (∀ v H' r g' B' al', k r g' → Stt K F g' tm s H' B' al' → RvOk K B' al' v r → Q v H') → r vs H Q
def dCall (dr : DCl) (da : DA) : DE := fun g k => da g fun rs g1 => dr rs g1 k
theorem ref_cb {K : PySem.W.Frag} {r : List V → Hp → VK → Prop} {dr : DCl} {da : DA} (h : RefC K r dr) : ∀ s H Q, lift K (dCall dr da) s H Q → tCB r (liftA K da) s H Q :=
  fun s H Q ⟨F, g, tm, k, B, al, S, hk, q⟩ => ⟨F, g, tm, _, B, al, S, hk, fun vs H1 rs g1 B1 al1 hk1 S1 pr => h F g1 tm s H1 B1 al1 vs rs k Q S1 pr hk1 fun v H' r g' B' al' hr S' rv => q v H' r g' B' al' hr (S'.push rv)⟩
theorem pd_callB {x : Str} {p : Pos} {id : String} {r : List V → Hp → VK → Prop} {dr : DCl} {da : DA} (hc : CallR X (.builtin id) r) (h : RefC X.K r dr) (hg : Gl X x) (hm : X.mg x = none) (hv : bootBuiltins x = some (.builtin id)) (ha : PDA X (e :: es) da) (hn : x ≠ "__name__" := by decide)
    (hdb : (x == ("__debug__" : Str)) = false := by decide) (he : starEach (e :: es) X.env = (false, eval e X.env) :: starEach es X.env := by rfl) (hpl : (backTo pos (starEach es X.env)).any (·.1) = false := by rfl) : PD X (.Call (.Name x p) (e :: es) [] pos) (dCall dr da) :=
  pe_imp (pe_callB hc hg hm hv ha hn hdb he hpl) (ref_cb h)
theorem pd_callTy {x : Str} {p : Pos} {id : String} {r : List V → Hp → VK → Prop} {dr : DCl} {da : DA} (hc : CallR X (.type id) r) (h : RefC X.K r dr) (hg : Gl X x) (hm : X.mg x = none) (hv : bootBuiltins x = some (.type id)) (ha : PDA X (e :: es) da) (hn : x ≠ "__name__" := by decide)
    (hdb : (x == ("__debug__" : Str)) = false := by decide) (he : starEach (e :: es) X.env = (false, eval e X.env) :: starEach es X.env := by rfl) (hpl : (backTo pos (starEach es X.env)).any (·.1) = false := by rfl) : PD X (.Call (.Name x p) (e :: es) [] pos) (dCall dr da) :=
  pe_imp (pe_callTy hc hg hm hv ha hn hdb he hpl) (ref_cb h)
theorem pair1 {K : PySem.W.Frag} {B : Hp} {al : List Addr} {vs : List V} {r : R} (h : Paired (RvOk K B al) vs [r]) : ∃ v, vs = [v] ∧ RvOk K B al v r := by
  cases h with
  | cons a b => cases b; exact ⟨_, rfl, a⟩
theorem pair2 {K : PySem.W.Frag} {B : Hp} {al : List Addr} {vs : List V} {r r' : R} (h : Paired (RvOk K B al) vs [r, r']) : ∃ v w, vs = [v, w] ∧ RvOk K B al v r ∧ RvOk K B al w r' := by
  cases h with
  | cons a b =>
    obtain ⟨w, e, h⟩ := pair1 b
    subst e
    exact ⟨_, _, rfl, a, h⟩
/-- len -/
def cLen : DCl := fun rs g k => ∃ r t ds, rs = [r] ∧ seqOf g r = some (t, ds) ∧ k (.d (.int ds.length)) g
theorem ref_len {K : PySem.W.Frag} : RefC K (fun xs H Q => ∃ p ys, xs = [.ref p] ∧ (SqL K H p ys ∨ SqT K H p ys) ∧ Q (.int ys.length) H) cLen := by
  rintro F g tm s H B al vs rs k Q S pr ⟨r, t, ds, rfl, hs, hk⟩ q
  obtain ⟨v, rfl, hv⟩ := pair1 pr
  obtain ⟨a, xs, rfl, h1, h2⟩ := S.seq hv hs
  refine ⟨a, xs, rfl, h1.or, ?_⟩
  rw [dqall_len h2]
  exact q _ H _ g B al hk S (.int _)
/-- abs, min, max, int -/
def cAbs : DCl := fun rs g k => ∃ i, rs = [.d (.int i)] ∧ k (.d (.int (if i < 0 then -i else i))) g
theorem ref_abs {K : PySem.W.Frag} : RefC K (fun xs H Q => ∃ i, xs = [.int i] ∧ Q (.int (if i < 0 then -i else i)) H) cAbs := by
  rintro F g tm s H B al vs rs k Q S pr ⟨i, rfl, hk⟩ q
  obtain ⟨v, rfl, hv⟩ := pair1 pr
  cases dq_int hv
  exact ⟨i, rfl, q _ H _ g B al hk S (.int _)⟩
def cMax2 : DCl := fun rs g k => ∃ i j, rs = [.d (.int i), .d (.int j)] ∧ k (.d (.int (if j > i then j else i))) g
theorem ref_max2 {K : PySem.W.Frag} : RefC K (fun xs H Q => ∃ i j, xs = [.int i, .int j] ∧ Q (.int (if j > i then j else i)) H) cMax2 := by
  rintro F g tm s H B al vs rs k Q S pr ⟨i, j, rfl, hk⟩ q
  obtain ⟨v, w, rfl, hv, hw⟩ := pair2 pr
  cases dq_int hv
  cases dq_int hw
  exact ⟨i, j, rfl, q _ H _ g B al hk S (.int _)⟩
def cMin2 : DCl := fun rs g k => ∃ i j, rs = [.d (.int i), .d (.int j)] ∧ k (.d (.int (if j < i then j else i))) g
theorem ref_min2 {K : PySem.W.Frag} : RefC K (fun xs H Q => ∃ i j, xs = [.int i, .int j] ∧ Q (.int (if j < i then j else i)) H) cMin2 := by
  rintro F g tm s H B al vs rs k Q S pr ⟨i, j, rfl, hk⟩ q
  obtain ⟨v, w, rfl, hv, hw⟩ := pair2 pr
  cases dq_int hv
  cases dq_int hw
  exact ⟨i, j, rfl, q _ H _ g B al hk S (.int _)⟩
def cIntB : DCl := fun rs g k => ∃ b, rs = [.d (.bool b)] ∧ k (.d (.int (if b then 1 else 0))) g
theorem ref_intB {K : PySem.W.Frag} : RefC K (fun xs H Q => (∃ i, xs = [.int i] ∧ Q (.int i) H) ∨ ∃ k, xs = [.bl k] ∧ Q (.int (if k then 1 else 0)) H) cIntB := by
  rintro F g tm s H B al vs rs k Q S pr ⟨i, rfl, hk⟩ q
  obtain ⟨v, rfl, hv⟩ := pair1 pr
  cases dq_bool hv
  exact .inr ⟨i, rfl, q _ H _ g B al hk S (.int _)⟩
/-- a new shared list, a new shared tuple -/
theorem new_l {K : PySem.W.Frag} {F : Fm} {g : G} {tm : List (V × R)} {s : L2.St} {H B : Hp} {al : List Addr} {p : Addr} {xs : List V} {ds : List PyData} {Q : VK} {k : R → G → Prop} (S : Stt K F g tm s H B al) (hp : H p = none) (hx : DqAll B xs ds) (hk : k (.d (.list ds)) g)
    (q : ∀ v H' r g' B' al', k r g' → Stt K F g' tm s H' B' al' → RvOk K B' al' v r → Q v H') : Q (.ref p) (upd H p (.lst xs)) :=
  q _ _ _ g _ al hk (S.grow hp) (Dq.lst upd_same (dqall_mono (same_new (S.bh.free hp)) hx))
theorem new_t {K : PySem.W.Frag} {F : Fm} {g : G} {tm : List (V × R)} {s : L2.St} {H B : Hp} {al : List Addr} {p : Addr} {xs : List V} {ds : List PyData} {Q : VK} {k : R → G → Prop} (S : Stt K F g tm s H B al) (hp : H p = none) (hx : DqAll B xs ds) (hk : k (.d (.tuple ds)) g)
    (q : ∀ v H' r g' B' al', k r g' → Stt K F g' tm s H' B' al' → RvOk K B' al' v r → Q v H') : Q (.ref p) (upd H p (.tup xs)) :=
  q _ _ _ g _ al hk (S.grow hp) (Dq.tup upd_same (dqall_mono (same_new (S.bh.free hp)) hx))
theorem new_o {K : PySem.W.Frag} {F : Fm} {g : G} {tm : List (V × R)} {s : L2.St} {H B : Hp} {al : List Addr} {p : Addr} {xs : List V} {ds : List PyData} {Q : VK} {k : R → G → Prop} (S : Stt K F g tm s H B al) (hp : H p = none) (hx : DqAll B xs ds) (hk : k (.o g.ce.length) { g with ce := g.ce ++ [.lst ds] })
    (q : ∀ v H' r g' B' al', k r g' → Stt K F g' tm s H' B' al' → RvOk K B' al' v r → Q v H') : Q (.ref p) (upd H p (.lst xs)) :=
  q _ _ _ _ _ _ hk (S.own hp ⟨xs, upd_same, hx⟩) ⟨p, S.own_at, rfl⟩
/-- list(x): shared; own -/
def cList : DCl := fun rs g k => ∃ r t ds, rs = [r] ∧ seqOf g r = some (t, ds) ∧ k (.d (.list ds)) g
def cListO : DCl := fun rs g k => ∃ r t ds, rs = [r] ∧ seqOf g r = some (t, ds) ∧ k (.o g.ce.length) { g with ce := g.ce ++ [.lst ds] }
theorem ref_list {K : PySem.W.Frag} : RefC K (fun xs H Q => ∃ p ys, xs = [.ref p] ∧ (SqL K H p ys ∨ SqT K H p ys) ∧ ∀ l, H l = none → Q (.ref l) (upd H l (.lst ys))) cList := by
  rintro F g tm s H B al vs rs k Q S pr ⟨r, t, ds, rfl, hs, hk⟩ q
  obtain ⟨v, rfl, hv⟩ := pair1 pr
  obtain ⟨a, xs, rfl, h1, h2⟩ := S.seq hv hs
  exact ⟨a, xs, rfl, h1.or, fun l hl => new_l S hl h2 hk q⟩
theorem ref_listO {K : PySem.W.Frag} : RefC K (fun xs H Q => ∃ p ys, xs = [.ref p] ∧ (SqL K H p ys ∨ SqT K H p ys) ∧ ∀ l, H l = none → Q (.ref l) (upd H l (.lst ys))) cListO := by
  rintro F g tm s H B al vs rs k Q S pr ⟨r, t, ds, rfl, hs, hk⟩ q
  obtain ⟨v, rfl, hv⟩ := pair1 pr
  obtain ⟨a, xs, rfl, h1, h2⟩ := S.seq hv hs
  exact ⟨a, xs, rfl, h1.or, fun l hl => new_o S hl h2 hk q⟩
/-- tuple(x) -/
def cTuple : DCl := fun rs g k => ∃ r t ds, rs = [r] ∧ seqOf g r = some (t, ds) ∧ k (.d (.tuple ds)) g
theorem seq_tup {g : G} {r : R} {ds : List PyData} (h : seqOf g r = some (true, ds)) : r = .d (.tuple ds) := by
  cases r with
  | d x =>
    cases x with
    | list es => cases h
    | tuple es =>
      have e : (true, es) = (true, ds) := Option.some.inj h
      cases e
      rfl
    | _ => cases h
  | s ns => cases h
  | o j =>
    have h' : (match g.ce[j]? with | some (.lst ds) => some (false, ds) | _ => none) = some (true, ds) := h
    split at h'
    · cases h'
    · cases h'
theorem ref_tuple {K : PySem.W.Frag} : RefC K (fun xs H Q => ∃ p ys, xs = [.ref p] ∧ ((SqL K H p ys ∧ ∀ l, H l = none → Q (.ref l) (upd H l (.tup ys))) ∨ (SqT K H p ys ∧ Q (.ref p) H))) cTuple := by
  rintro F g tm s H B al vs rs k Q S pr ⟨r, t, ds, rfl, hs, hk⟩ q
  obtain ⟨v, rfl, hv⟩ := pair1 pr
  obtain ⟨a, xs, rfl, h1, h2⟩ := S.seq hv hs
  cases t with
  | false => exact ⟨a, xs, rfl, .inl ⟨h1, fun l hl => new_t S hl h2 hk q⟩⟩
  | true =>
    have e := seq_tup hs
    subst e
    exact ⟨a, xs, rfl, .inr ⟨h1, q _ H _ g B al hk S hv⟩⟩

/-! ### displays -/
def dTup (da : DA) : DE := fun g k => da g fun rs g1 => ∃ ds, rs = ds.map R.d ∧ ds.length ≤ 100000 ∧ k (.d (.tuple ds)) g1
def dLst (da : DA) : DE := fun g k => da g fun rs g1 => ∃ ds, rs = ds.map R.d ∧ ds.length ≤ 100000 ∧ k (.d (.list ds)) g1
def dLstO (da : DA) : DE := fun g k => da g fun rs g1 => ∃ ds, rs = ds.map R.d ∧ ds.length ≤ 100000 ∧ k (.o g1.ce.length) { g1 with ce := g1.ce ++ [.lst ds] }
theorem sz_ok {n : Nat} (h : n ≤ 100000) : n ≤ sizeLine := Nat.le_trans h (by decide)
theorem sz_lt {n : Nat} (h : n < 100000) : n < sizeLine := Nat.lt_of_lt_of_le h (by decide)
theorem pd_tup {x1 : Nat} {da : DA} (h : PDA X es da) : PD X (.Tuple es x1 pos) (dTup da) := pe_imp (pe_tup h) fun s H Q ⟨F, g, tm, k, B, al, S, hk, q⟩ =>
  ⟨F, g, tm, _, B, al, S, hk, fun vs H1 rs g1 B1 al1 ⟨ds, e, hz, hk1⟩ S1 pr => by
    subst e
    have hd := dqall_paired pr
    refine ⟨by rw [dqall_len hd]; exact sz_ok hz, fun p hp => ?_⟩
    exact new_t S1 hp hd hk1 fun v H' r g' B' al' hr S' rv => q v H' r g' B' al' hr (S'.push rv)⟩
theorem pd_lst {da : DA} (h : PDA X es da) : PD X (.List es pos) (dLst da) := pe_imp (pe_lst h) fun s H Q ⟨F, g, tm, k, B, al, S, hk, q⟩ =>
  ⟨F, g, tm, _, B, al, S, hk, fun vs H1 rs g1 B1 al1 ⟨ds, e, hz, hk1⟩ S1 pr => by
    subst e
    have hd := dqall_paired pr
    refine ⟨by rw [dqall_len hd]; exact sz_ok hz, fun p hp => ?_⟩
    exact new_l S1 hp hd hk1 fun v H' r g' B' al' hr S' rv => q v H' r g' B' al' hr (S'.push rv)⟩
theorem pd_lstO {da : DA} (h : PDA X es da) : PD X (.List es pos) (dLstO da) := pe_imp (pe_lst h) fun s H Q ⟨F, g, tm, k, B, al, S, hk, q⟩ =>
  ⟨F, g, tm, _, B, al, S, hk, fun vs H1 rs g1 B1 al1 ⟨ds, e, hz, hk1⟩ S1 pr => by
    subst e
    have hd := dqall_paired pr
    refine ⟨by rw [dqall_len hd]; exact sz_ok hz, fun p hp => ?_⟩
    exact new_o S1 hp hd hk1 fun v H' r g' B' al' hr S' rv => q v H' r g' B' al' hr (S'.push rv)⟩
end
end DL

set_option Elab.async false
set_option linter.all false
set_option maxRecDepth 100000
set_option maxHeartbeats 4000000
set_option autoImplicit false
namespace DL
open PySem PySem.Spec PyProof.Rows L2
section
variable {X : Cx} {e a b c : Expr} {es : List Expr} {pos : Pos}

/-! ### whole numbers -/
def oI (C : Int → Int → Prop) (f : Int → Int → PyData) : D2 := fun r1 r2 g k => ∃ i j, r1 = .d (.int i) ∧ r2 = .d (.int j) ∧ C i j ∧ k (.d (f i j)) g
def oI0 (f : Int → Int → PyData) : D2 := fun r1 r2 g k => ∃ i j, r1 = .d (.int i) ∧ r2 = .d (.int j) ∧ k (.d (f i j)) g
theorem ref_I {K : PySem.W.Frag} {C : Int → Int → Prop} {f : Int → Int → PyData} {h : Int → Int → V} (hd : ∀ B i j, Dq B (h i j) (f i j)) : RefOp K (rI C h) (oI C f) := by
  rintro F g tm s H B al x y r1 r2 k Q S hx hy ⟨i, j, rfl, rfl, hc, hk⟩ q
  cases dq_int hx
  cases dq_int hy
  exact ⟨i, j, rfl, rfl, hc, q _ H _ g B al hk S (hd _ _ _)⟩
theorem ref_I0 {K : PySem.W.Frag} {f : Int → Int → PyData} {h : Int → Int → V} (hd : ∀ B i j, Dq B (h i j) (f i j)) : RefOp K (rI0 h) (oI0 f) := by
  rintro F g tm s H B al x y r1 r2 k Q S hx hy ⟨i, j, rfl, rfl, hk⟩ q
  cases dq_int hx
  cases dq_int hy
  exact ⟨i, j, rfl, rfl, q _ H _ g B al hk S (hd _ _ _)⟩
abbrev oAdd : D2 := oI0 fun i j => .int (i + j)
abbrev oSub : D2 := oI0 fun i j => .int (i - j)
abbrev oMul : D2 := oI CMul fun i j => .int (i * j)
abbrev oMod : D2 := oI (fun _ j => 0 < j) fun i j => .int (i % j)
abbrev oDiv : D2 := oI CDivW fun i j => .int (i / j)
abbrev oPow : D2 := oI CPow fun i j => .int (i ^ j.toNat)
abbrev oLt : D2 := oI0 fun i j => .bool (decide (i < j))
abbrev oLe : D2 := oI0 fun i j => .bool (decide (i ≤ j))
abbrev oGt : D2 := oI0 fun i j => .bool (decide (j < i))
abbrev oGe : D2 := oI0 fun i j => .bool (decide (j ≤ i))
theorem pd_add {da db : DE} (ha : PD X a da) (hb : PD X b db) : PD X (.BinOp a .Add b pos) (dOp oAdd da db) := pd_op op_add (ref_I0 fun _ _ _ => .int _) ha hb
theorem pd_sub {da db : DE} (ha : PD X a da) (hb : PD X b db) : PD X (.BinOp a .Sub b pos) (dOp oSub da db) := pd_op op_sub (ref_I0 fun _ _ _ => .int _) ha hb
theorem pd_mul {da db : DE} (ha : PD X a da) (hb : PD X b db) : PD X (.BinOp a .Mult b pos) (dOp oMul da db) := pd_op op_mul (ref_I fun _ _ _ => .int _) ha hb
theorem pd_mod {da db : DE} (ha : PD X a da) (hb : PD X b db) : PD X (.BinOp a .Mod b pos) (dOp oMod da db) := pd_op op_mod (ref_I fun _ _ _ => .int _) ha hb
theorem pd_div {da db : DE} (ha : PD X a da) (hb : PD X b db) : PD X (.BinOp a .FloorDiv b pos) (dOp oDiv da db) := pd_op op_fdivW (ref_I fun _ _ _ => .int _) ha hb
theorem pd_pow {da db : DE} (ha : PD X a da) (hb : PD X b db) : PD X (.BinOp a .Pow b pos) (dOp oPow da db) := pd_op op_pow (ref_I fun _ _ _ => .int _) ha hb
theorem pd_lt {da db : DE} (ha : PD X a da) (hb : PD X b db) : PD X (.Compare a [.Lt] [b] pos) (dOp oLt da db) := pd_cmp op_lt (nomark _) (ref_I0 fun _ _ _ => .bl _) ha hb
theorem pd_le {da db : DE} (ha : PD X a da) (hb : PD X b db) : PD X (.Compare a [.LtE] [b] pos) (dOp oLe da db) := pd_cmp op_le (nomark _) (ref_I0 fun _ _ _ => .bl _) ha hb
theorem pd_gt {da db : DE} (ha : PD X a da) (hb : PD X b db) : PD X (.Compare a [.Gt] [b] pos) (dOp oGt da db) := pd_cmp op_gt (nomark _) (ref_I0 fun _ _ _ => .bl _) ha hb
theorem pd_ge {da db : DE} (ha : PD X a da) (hb : PD X b db) : PD X (.Compare a [.GtE] [b] pos) (dOp oGe da db) := pd_cmp op_ge (nomark _) (ref_I0 fun _ _ _ => .bl _) ha hb
def dNeg (da : DE) : DE := fun g k => da g fun r g1 => ∃ i, r = .d (.int i) ∧ k (.d (.int (-i))) g1
theorem pd_neg {da : DE} (ha : PD X a da) : PD X (.UnaryOp .USub a pos) (dNeg da) := pe_imp (pe_un un_neg ha) fun s H Q ⟨F, g, tm, k, B, al, S, hk, q⟩ =>
  ⟨F, g, tm, _, B, al, S, hk, fun v H1 r g1 B1 al1 ⟨i, e, hk1⟩ S1 => by
    subst e
    cases dq_int (S1.top rfl)
    exact ⟨i, rfl, q _ H1 _ g1 B1 al1 hk1 ((S1.temps fun p hp => List.mem_cons_of_mem _ hp).push (Dq.int _))⟩⟩

/-! ### == and != of data; is None -/
/-- the data that a value is -/
def datOf (g : G) : R → Option PyData
  | .d x => some x
  | .s _ => none
  | .o j => match g.ce[j]? with
    | some (.lst ds) => some (.list ds)
    | _ => none
theorem Stt.dat {K : PySem.W.Frag} {F : Fm} {g : G} {tm : List (V × R)} {s : L2.St} {H B : Hp} {al : List Addr} (S : Stt K F g tm s H B al) {v : V} {r : R} {x : PyData} (hv : RvOk K B al v r) (h : datOf g r = some x) : Dp K H v x := by
  cases r with
  | d y => cases h; exact dq_dp (dq_mono S.bh hv)
  | s ns => cases h
  | o j =>
    obtain ⟨a, e1, e2⟩ := hv
    subst e2
    have h' : (match g.ce[j]? with | some (.lst ds) => some (PyData.list ds) | _ => none) = some x := h
    cases hc : g.ce[j]? with
    | none => rw [hc] at h'; cases h'
    | some ct =>
      rw [hc] at h'
      cases ct with
      | lst es =>
        cases h'
        obtain ⟨xs, q1, q2⟩ := S.ce j a _ e1 hc
        exact .lst (.inl (.inl q1)) (dqall_dp (dqall_mono S.bh q2))
      | dead => cases h'
      | dK kvs => cases h'
      | dT kvs => cases h'
def oEq : D2 := fun r1 r2 g k => ∃ x y, datOf g r1 = some x ∧ datOf g r2 = some y ∧ SeqAt.shaped x = true ∧ SeqAt.shaped y = true ∧ k (.d (.bool (PyData.eqv x y))) g
def oNe : D2 := fun r1 r2 g k => ∃ x y, datOf g r1 = some x ∧ datOf g r2 = some y ∧ SeqAt.shaped x = true ∧ SeqAt.shaped y = true ∧ k (.d (.bool (!PyData.eqv x y))) g
theorem pd_eq {da db : DE} (hu : X.A.units + 64 < cLine) (ha : PD X a da) (hb : PD X b db) : PD X (.Compare a [.Eq] [b] pos) (dOp oEq da db) := pd_cmp (op_eqD hu) (nomark _) (by
  rintro F g tm s H B al x y r1 r2 k Q S hx hy ⟨dx, dy, e1, e2, s1, s2, hk⟩ q
  exact ⟨dx, dy, S.dat hx e1, S.dat hy e2, s1, s2, q _ H _ g B al hk S (Dq.bl _)⟩) ha hb
theorem pd_ne {da db : DE} (hu : X.A.units + 64 < cLine) (ha : PD X a da) (hb : PD X b db) : PD X (.Compare a [.NotEq] [b] pos) (dOp oNe da db) := pd_cmp (op_neD hu) (nomark _) (by
  rintro F g tm s H B al x y r1 r2 k Q S hx hy ⟨dx, dy, e1, e2, s1, s2, hk⟩ q
  exact ⟨dx, dy, S.dat hx e1, S.dat hy e2, s1, s2, q _ H _ g B al hk S (Dq.bl _)⟩) ha hb
def isN : PyData → Bool
  | .none => true
  | _ => false
theorem dq_isN {B : Hp} {v : V} {x : PyData} (h : Dq B v x) : decide (v = .non) = isN x := by
  cases h <;> simp [isN]
def oIsN : D2 := fun r1 r2 g k => ∃ x, r1 = .d x ∧ r2 = .d .none ∧ k (.d (.bool (isN x))) g
def oNotN : D2 := fun r1 r2 g k => ∃ x, r1 = .d x ∧ r2 = .d .none ∧ k (.d (.bool (!isN x))) g
theorem pd_isN {da db : DE} (ha : PD X a da) (hb : PD X b db) : PD X (.Compare a [.Is] [b] pos) (dOp oIsN da db) := pd_cmp op_isN (nomark _) (by
  rintro F g tm s H B al x y r1 r2 k Q S hx hy ⟨dx, rfl, rfl, hk⟩ q
  refine ⟨dq_none hy, ?_⟩
  rw [dq_isN hx]
  exact q _ H _ g B al hk S (Dq.bl _)) ha hb
theorem pd_notN {da db : DE} (ha : PD X a da) (hb : PD X b db) : PD X (.Compare a [.IsNot] [b] pos) (dOp oNotN da db) := pd_cmp op_notN (nomark _) (by
  rintro F g tm s H B al x y r1 r2 k Q S hx hy ⟨dx, rfl, rfl, hk⟩ q
  refine ⟨dq_none hy, ?_⟩
  rw [dq_isN hx]
  exact q _ H _ g B al hk S (Dq.bl _)) ha hb

/-! ### subscripts, slices, + -/
theorem at_len {α β : Type} {xs : List α} {ys : List β} {i : Int} {y : β} (hl : xs.length = ys.length) (h : atI ys i = some y) : ∃ j : Nat, ixN xs.length i = some j ∧ ys[j]? = some y := by
  unfold atI at h
  rw [hl]
  cases e : ixN ys.length i with
  | none => rw [e] at h; cases h
  | some j => rw [e] at h; exact ⟨j, rfl, h⟩
theorem dqall_at {B : Hp} {xs : List V} {ds : List PyData} {i : Int} {d : PyData} (r : DqAll B xs ds) (h : atI ds i = some d) : ∃ x, atI xs i = some x ∧ Dq B x d := by
  obtain ⟨j, e1, e2⟩ := at_len (dqall_len r) h
  obtain ⟨x, h1, h2⟩ := dqall_get r e2
  refine ⟨x, ?_, h2⟩
  unfold atI
  rw [e1]
  exact h1
def oIx : D2 := fun r1 r2 g k => ∃ t ds i x, seqOf g r1 = some (t, ds) ∧ r2 = .d (.int i) ∧ atI ds i = some x ∧ k (.d x) g
theorem ref_ix {K : PySem.W.Frag} : RefOp K (fun x y H Q => rIxL K x y H Q ∨ rIxT K x y H Q) oIx := by
  rintro F g tm s H B al x y r1 r2 k Q S hx hy ⟨t, ds, i, d, e1, rfl, e2, hk⟩ q
  cases dq_int hy
  obtain ⟨a, xs, rfl, h1, h2⟩ := S.seq hx e1
  obtain ⟨v, hv, hd⟩ := dqall_at h2 e2
  cases t with
  | false => exact .inl ⟨a, xs, i, v, rfl, rfl, h1, hv, q _ H _ g B al hk S hd⟩
  | true => exact .inr ⟨a, xs, i, v, rfl, rfl, h1, hv, q _ H _ g B al hk S hd⟩
theorem pd_ix {da db : DE} (ha : PD X a da) (hb : PD X b db) (hs : PlainIx b := by intro _ _; rfl) : PD X (.Subscript a b pos) (dOp oIx da db) :=
  pe_imp (pe_ix (IxR.or ix_list ix_tup) ha hb hs) (ref_op ref_ix)
/-- the items of a slice -/
def cut {α : Type} (xs : List α) (lo hi : Option Int) : List α := (xs.drop (HT.sIx xs.length 0 lo)).take (HT.sIx xs.length xs.length hi - HT.sIx xs.length 0 lo)
theorem dqall_cut {B : Hp} {xs : List V} {ds : List PyData} (r : DqAll B xs ds) (lo hi : Option Int) : DqAll B (cutV xs lo hi) (cut ds lo hi) := by
  unfold cutV cut
  rw [dqall_len r]
  exact dqall_take _ (dqall_drop _ r)
abbrev DO := G → (Option Int → G → Prop) → Prop
def liftO (K : PySem.W.Frag) (dt : DO) : TO := fun s H Q => ∃ F g tm k B al, Stt K F g tm s H B al ∧ dt g k ∧ ∀ b H' g' B' al', k b g' → Stt K F g' tm s H' B' al' → Q b H'
abbrev PDO (X : Cx) (e : Option Expr) (dt : DO) : Prop := PO X e (liftO X.K dt)
theorem po_imp {o : Option Expr} {t t' : TO} (h : PO X o t) (i : ∀ s H Q, t' s H Q → t s H Q) : PO X o t' := ⟨fun pins s σ H Q I q => h.run pins s σ H Q I (i σ H Q q)⟩
def dNo : DO := fun g k => k none g
def dPart (de : DE) : DO := fun g k => de g fun r g1 => ∃ i, r = .d (.int i) ∧ k (some i) g1
theorem pdo_none : PDO X none dNo := po_imp po_none fun s H Q ⟨F, g, tm, k, B, al, S, hk, q⟩ => q none H g B al hk S
theorem pdo_some {de : DE} (h : PD X e de) : PDO X (some e) (dPart de) := po_imp (po_some h) fun s H Q ⟨F, g, tm, k, B, al, S, hk, q⟩ =>
  ⟨F, g, tm, _, B, al, S, hk, fun v H1 r g1 B1 al1 ⟨i, e, hk1⟩ S1 => by
    subst e
    cases dq_int (S1.top rfl)
    exact ⟨i, rfl, q _ H1 g1 B1 al1 hk1 (S1.temps fun p hp => List.mem_cons_of_mem _ hp)⟩⟩
/-- x[lo:hi] -/
def dSl (de : DE) (dl dh : DO) : DE := fun g k => de g fun r g1 => dl g1 fun lo g2 => dh g2 fun hi g3 => ∃ t ds, seqOf g3 r = some (t, ds) ∧ k (.d (if t then .tuple (cut ds lo hi) else .list (cut ds lo hi))) g3
theorem cut_whole {α : Type} {xs : List α} {lo hi : Option Int} (h : HT.sIx xs.length 0 lo = 0 ∧ HT.sIx xs.length xs.length hi = xs.length) : cut xs lo hi = xs := by
  unfold cut
  rw [h.1, h.2, List.drop_zero, Nat.sub_zero, List.take_length]
theorem pd_sl {de : DE} {dl dh : DO} {lo hi : Option Expr} {p2 : Pos} (he : PD X e de) (hl : PDO X lo dl) (hh : PDO X hi dh) : PD X (.Subscript e (.Slice lo hi none p2) pos) (dSl de dl dh) :=
  pe_imp (pe_slice (SlR.or sl_list sl_tupA) he hl hh) fun s H Q ⟨F, g, tm, k, B, al, S, hk, q⟩ => ⟨F, g, tm, _, B, al, S, hk, fun v H1 r g1 B1 al1 hk1 S1 => ⟨F, g1, (v, r) :: tm, _, B1, al1, S1, hk1, fun l H2 g2 B2 al2 hk2 S2 => ⟨F, g2, (v, r) :: tm, _, B2, al2, S2, hk2, fun h H3 g3 B3 al3 ⟨t, ds, e, hk3⟩ S3 => by
    obtain ⟨a, xs, rfl, h1, h2⟩ := S3.seq (S3.top rfl) e
    have hc := dqall_cut h2 l h
    have S4 := S3.temps (tm' := tm) fun p hp => List.mem_cons_of_mem _ hp
    have q' : ∀ v H' r g' B' al', k r g' → Stt X.K F g' tm s H' B' al' → RvOk X.K B' al' v r → Q v H' := fun v H' r g' B' al' hr S' rv => q v H' r g' B' al' hr (S'.push rv)
    cases t with
    | false => exact .inl ⟨a, xs, rfl, h1, fun p hp => new_l S4 hp hc hk3 q'⟩
    | true =>
      have er := seq_tup e
      subst er
      refine .inr ⟨a, xs, rfl, h1, fun hw => ?_, fun _ p hp => new_t S4 hp hc hk3 q'⟩
      rw [dqall_len h2] at hw
      have z : k (.d (.tuple (cut ds l h))) g3 := hk3
      rw [cut_whole hw] at z
      exact q' _ H3 _ g3 B3 al3 z S4 (S3.top rfl)⟩⟩⟩
/-- x[::-1] of a list -/
def dRevL (de : DE) : DE := fun g k => de g fun r g1 => ∃ ds, seqOf g1 r = some (false, ds) ∧ k (.d (.list ds.reverse)) g1
theorem pd_revL {de : DE} {kk : Nat} {p1 p2 p3 : Pos} (he : PD X e de) : PD X (.Subscript e (.Slice none none (some (.UnaryOp .USub (.Constant (.int 1) kk p1) p2)) p3) pos) (dRevL de) :=
  pe_imp (pe_revL he) fun s H Q ⟨F, g, tm, k, B, al, S, hk, q⟩ => ⟨F, g, tm, _, B, al, S, hk, fun v H1 r g1 B1 al1 ⟨ds, e, hk1⟩ S1 => by
    obtain ⟨a, xs, rfl, h1, h2⟩ := S1.seq (S1.top rfl) e
    exact ⟨a, xs, rfl, h1, fun p hp => new_l (S1.temps (tm' := tm) fun p hp => List.mem_cons_of_mem _ hp) hp (dqall_rev h2) hk1 fun v H' r g' B' al' hr S' rv => q v H' r g' B' al' hr (S'.push rv)⟩⟩
/-- lists: x + y; tuples: x + y -/
def oCatL : D2 := fun r1 r2 g k => ∃ xs ys, seqOf g r1 = some (false, xs) ∧ seqOf g r2 = some (false, ys) ∧ isMade r1 = true ∧ isMade r2 = true ∧ xs.length + ys.length ≤ 100000 ∧ k (.d (.list (xs ++ ys))) g
theorem pd_catL {da db : DE} (ha : PD X a da) (hb : PD X b db) : PD X (.BinOp a .Add b pos) (dOp oCatL da db) := pd_op op_cat (by
  rintro F g tm s H B al x y r1 r2 k Q S hx hy ⟨ds, es, e1, e2, m1, m2, hz, hk⟩ q
  obtain ⟨a, xs, rfl, h1, h2⟩ := S.seqM hx e1 m1
  obtain ⟨b, ys, rfl, h3, h4⟩ := S.seqM hy e2 m2
  exact ⟨a, b, xs, ys, rfl, rfl, h1, h3, by rw [dqall_len h2, dqall_len h4]; exact sz_ok hz, fun p hp => new_l S hp (dqall_app h2 h4) hk q⟩) ha hb
def oCatT : D2 := fun r1 r2 g k => ∃ xs ys, r1 = .d (.tuple xs) ∧ r2 = .d (.tuple ys) ∧ xs.length + ys.length ≤ 100000 ∧ k (.d (.tuple (xs ++ ys))) g
theorem pd_catT {da db : DE} (ha : PD X a da) (hb : PD X b db) : PD X (.BinOp a .Add b pos) (dOp oCatT da db) := pd_op op_catA (by
  rintro F g tm s H B al x y r1 r2 k Q S hx hy ⟨ds, es, rfl, rfl, hz, hk⟩ q
  obtain ⟨a, xs, rfl, h1, h2⟩ := dq_tup hx
  obtain ⟨b, ys, rfl, h3, h4⟩ := dq_tup hy
  refine ⟨a, b, xs, ys, rfl, rfl, .inl (.inl (S.bh _ _ h1)), .inl (.inl (S.bh _ _ h3)), by rw [dqall_len h2, dqall_len h4]; exact sz_ok hz, fun e => ?_, fun _ e => ?_, fun _ _ p hp => new_t S hp (dqall_app h2 h4) hk q⟩
  · subst e
    cases h2
    exact q _ H _ g B al hk S hy
  · subst e
    cases h4
    rw [List.append_nil] at hk
    exact q _ H _ g B al hk S hx) ha hb
def oRepL : D2 := fun r1 r2 g k => ∃ xs i, seqOf g r1 = some (false, xs) ∧ isMade r1 = true ∧ r2 = .d (.int i) ∧ -1000000 ≤ i ∧ i ≤ 1000000 ∧ xs.length * i.toNat ≤ 100000 ∧ k (.d (.list (List.replicate i.toNat xs).flatten)) g

/-! ### and, or, not, if as values -/
def dAnd (da db : DE) : DE := fun g k => da g fun r g1 => ∃ c, r = .d (.bool c) ∧ if c = true then db g1 k else k (.d (.bool false)) g1
def dOr (da db : DE) : DE := fun g k => da g fun r g1 => ∃ c, r = .d (.bool c) ∧ if c = true then k (.d (.bool true)) g1 else db g1 k
def dNot (da : DE) : DE := fun g k => da g fun r g1 => ∃ c, r = .d (.bool c) ∧ k (.d (.bool (!c))) g1
theorem pd_one {op} {de : DE} (h : PD X a de) : PD X (.BoolOp op [a] pos) de := pe_one h
theorem pd_and {rest : List Expr} {da db : DE} (ha : PD X a da) (hb : PD X (.BoolOp .And (b :: rest) pos) db) : PD X (.BoolOp .And (a :: b :: rest) pos) (dAnd da db) :=
  pe_imp (pe_and ha hb) fun s H Q ⟨F, g, tm, k, B, al, S, hk, q⟩ => ⟨F, g, tm, _, B, al, S, hk, fun v H1 r g1 B1 al1 ⟨c, e, hk1⟩ S1 => by
    subst e
    cases dq_bool (S1.top rfl)
    have S2 := S1.temps (tm' := tm) fun p hp => List.mem_cons_of_mem _ hp
    refine ⟨c, rfl, ?_⟩
    cases c with
    | true => exact iteT ⟨F, g1, tm, k, B1, al1, S2, hk1, q⟩
    | false => exact iteF (q _ H1 _ g1 B1 al1 hk1 (S2.push (Dq.bl _)))⟩
theorem pd_or {rest : List Expr} {da db : DE} (ha : PD X a da) (hb : PD X (.BoolOp .Or (b :: rest) pos) db) : PD X (.BoolOp .Or (a :: b :: rest) pos) (dOr da db) :=
  pe_imp (pe_or ha hb) fun s H Q ⟨F, g, tm, k, B, al, S, hk, q⟩ => ⟨F, g, tm, _, B, al, S, hk, fun v H1 r g1 B1 al1 ⟨c, e, hk1⟩ S1 => by
    subst e
    cases dq_bool (S1.top rfl)
    have S2 := S1.temps (tm' := tm) fun p hp => List.mem_cons_of_mem _ hp
    refine ⟨c, rfl, ?_⟩
    cases c with
    | true => exact iteT (q _ H1 _ g1 B1 al1 hk1 (S2.push (Dq.bl _)))
    | false => exact iteF ⟨F, g1, tm, k, B1, al1, S2, hk1, q⟩⟩
theorem pd_not {da : DE} (ha : PD X a da) : PD X (.UnaryOp .Not a pos) (dNot da) := pe_imp (pe_not ha) fun s H Q ⟨F, g, tm, k, B, al, S, hk, q⟩ =>
  ⟨F, g, tm, _, B, al, S, hk, fun v H1 r g1 B1 al1 ⟨c, e, hk1⟩ S1 => by
    subst e
    cases dq_bool (S1.top rfl)
    exact ⟨c, rfl, q _ H1 _ g1 B1 al1 hk1 ((S1.temps fun p hp => List.mem_cons_of_mem _ hp).push (Dq.bl _))⟩⟩
/-! tests -/
def dTst (da : DE) : DT := fun g k => da g fun r g1 => ∃ c, r = .d (.bool c) ∧ k c g1
theorem ref_tst {K : PySem.W.Frag} {da : DE} : ∀ s H Q, liftT K (dTst da) s H Q → tB (lift K da) s H Q := fun s H Q ⟨F, g, tm, k, B, al, S, hk, q⟩ =>
  ⟨F, g, tm, _, B, al, S, hk, fun v H1 r g1 B1 al1 ⟨c, e, hk1⟩ S1 => by
    subst e
    cases dq_bool (S1.top rfl)
    exact ⟨c, rfl, q c H1 g1 B1 al1 hk1 (S1.temps fun p hp => List.mem_cons_of_mem _ hp)⟩⟩
/-- a value that is True or False as a test -/
theorem pdt_val {da : DE} (h : PD X e da) (he : ∀ whole, isTrue e X.env whole = (do let v ← whole; standAt e.pos; holding [v] (truthy v)) := by intro _; rfl) : PDT X e (dTst da) := pt_imp (pt_val h he) ref_tst
def dAndT (t u : DT) : DT := fun g k => t g fun c g1 => if c = true then u g1 k else k false g1
def dOrT (t u : DT) : DT := fun g k => t g fun c g1 => if c = true then k true g1 else u g1 k
def dNotT (t : DT) : DT := fun g k => t g fun c g1 => k (!c) g1
abbrev PDW (X : Cx) (e : Expr) (dt : DT) : Prop := PW X e (liftT X.K dt)
theorem pw_imp {t t' : TT} (h : PW X e t) (i : ∀ s H Q, t' s H Q → t s H Q) : PW X e t' := ⟨fun w pins s σ H Q I q => h.run w pins s σ H Q I (i σ H Q q)⟩
theorem pdw_and1 {t : DT} (h : PDT X a t) : PDW X (.BoolOp .And [a] pos) t := pw_and1 h
theorem pdw_or1 {t : DT} (h : PDT X a t) : PDW X (.BoolOp .Or [a] pos) t := pw_or1 h
theorem pdw_and {rest : List Expr} {t u : DT} (ha : PDT X a t) (hb : PDW X (.BoolOp .And (b :: rest) pos) u) : PDW X (.BoolOp .And (a :: b :: rest) pos) (dAndT t u) :=
  pw_imp (pw_and ha hb) fun s H Q ⟨F, g, tm, k, B, al, S, hk, q⟩ => ⟨F, g, tm, _, B, al, S, hk, fun c H1 g1 B1 al1 hk1 S1 => by
    cases c with
    | true => exact iteT ⟨F, g1, tm, k, B1, al1, S1, hk1, q⟩
    | false => exact iteF (q _ H1 g1 B1 al1 hk1 S1)⟩
theorem pdw_or {rest : List Expr} {t u : DT} (ha : PDT X a t) (hb : PDW X (.BoolOp .Or (b :: rest) pos) u) : PDW X (.BoolOp .Or (a :: b :: rest) pos) (dOrT t u) :=
  pw_imp (pw_or ha hb) fun s H Q ⟨F, g, tm, k, B, al, S, hk, q⟩ => ⟨F, g, tm, _, B, al, S, hk, fun c H1 g1 B1 al1 hk1 S1 => by
    cases c with
    | true => exact iteT (q _ H1 g1 B1 al1 hk1 S1)
    | false => exact iteF ⟨F, g1, tm, k, B1, al1, S1, hk1, q⟩⟩
theorem pdt_w {t : DT} (h : PDW X e t) : PDT X e t := PW.pt h
theorem pdt_not {t : DT} (h : PDT X a t) : PDT X (.UnaryOp .Not a pos) (dNotT t) := pt_imp (pt_not h) fun s H Q ⟨F, g, tm, k, B, al, S, hk, q⟩ => ⟨F, g, tm, _, B, al, S, hk, fun c H1 g1 B1 al1 hk1 S1 => q _ H1 g1 B1 al1 hk1 S1⟩
theorem pdt_cmp {op : CmpOp} {r : R2} {dr : D2} {da db : DE} (ho : OpR X (compareOp op) r) (hm : behindInMarks op b = false) (h : RefOp X.K r dr) (ha : PD X a da) (hb : PD X b db) : PDT X (.Compare a [op] [b] pos) (dTst (dOp dr da db)) :=
  pt_imp (pt_cmpR ho ha hb hm) fun s H Q hq => ref_op h s H _ (show lift X.K (dOp dr da db) s H (fun x H' => ∃ k, x = .bl k ∧ Q k H') from (by
    obtain ⟨F, g, tm, k, B, al, S, hk, q⟩ := hq
    exact ⟨F, g, tm, _, B, al, S, hk, fun v H1 r g1 B1 al1 ⟨c, e, hk1⟩ S1 => by
      subst e
      cases dq_bool (S1.top rfl)
      exact ⟨c, rfl, q c H1 g1 B1 al1 hk1 (S1.temps fun p hp => List.mem_cons_of_mem _ hp)⟩⟩))
theorem pdt_lt {da db : DE} (ha : PD X a da) (hb : PD X b db) : PDT X (.Compare a [.Lt] [b] pos) (dTst (dOp oLt da db)) := pdt_cmp op_lt (nomark _) (ref_I0 fun _ _ _ => .bl _) ha hb
theorem pdt_le {da db : DE} (ha : PD X a da) (hb : PD X b db) : PDT X (.Compare a [.LtE] [b] pos) (dTst (dOp oLe da db)) := pdt_cmp op_le (nomark _) (ref_I0 fun _ _ _ => .bl _) ha hb
theorem pdt_gt {da db : DE} (ha : PD X a da) (hb : PD X b db) : PDT X (.Compare a [.Gt] [b] pos) (dTst (dOp oGt da db)) := pdt_cmp op_gt (nomark _) (ref_I0 fun _ _ _ => .bl _) ha hb
theorem pdt_ge {da db : DE} (ha : PD X a da) (hb : PD X b db) : PDT X (.Compare a [.GtE] [b] pos) (dTst (dOp oGe da db)) := pdt_cmp op_ge (nomark _) (ref_I0 fun _ _ _ => .bl _) ha hb
theorem ref_eqd {K : PySem.W.Frag} : RefOp K (rEqD K) oEq := by
  rintro F g tm s H B al x y r1 r2 k Q S hx hy ⟨dx, dy, e1, e2, s1, s2, hk⟩ q
  exact ⟨dx, dy, S.dat hx e1, S.dat hy e2, s1, s2, q _ H _ g B al hk S (Dq.bl _)⟩
theorem ref_ned {K : PySem.W.Frag} : RefOp K (rNeD K) oNe := by
  rintro F g tm s H B al x y r1 r2 k Q S hx hy ⟨dx, dy, e1, e2, s1, s2, hk⟩ q
  exact ⟨dx, dy, S.dat hx e1, S.dat hy e2, s1, s2, q _ H _ g B al hk S (Dq.bl _)⟩
theorem pdt_eq {da db : DE} (hu : X.A.units + 64 < cLine) (ha : PD X a da) (hb : PD X b db) : PDT X (.Compare a [.Eq] [b] pos) (dTst (dOp oEq da db)) := pdt_cmp (op_eqD hu) (nomark _) ref_eqd ha hb
theorem pdt_ne {da db : DE} (hu : X.A.units + 64 < cLine) (ha : PD X a da) (hb : PD X b db) : PDT X (.Compare a [.NotEq] [b] pos) (dTst (dOp oNe da db)) := pdt_cmp (op_neD hu) (nomark _) ref_ned ha hb
theorem ref_isn {K : PySem.W.Frag} : RefOp K (fun x y H Q => y = .non ∧ Q (.bl (decide (x = .non))) H) oIsN := by
  rintro F g tm s H B al x y r1 r2 k Q S hx hy ⟨dx, rfl, rfl, hk⟩ q
  refine ⟨dq_none hy, ?_⟩
  rw [dq_isN hx]
  exact q _ H _ g B al hk S (Dq.bl _)
theorem ref_notn {K : PySem.W.Frag} : RefOp K (fun x y H Q => y = .non ∧ Q (.bl (!decide (x = .non))) H) oNotN := by
  rintro F g tm s H B al x y r1 r2 k Q S hx hy ⟨dx, rfl, rfl, hk⟩ q
  refine ⟨dq_none hy, ?_⟩
  rw [dq_isN hx]
  exact q _ H _ g B al hk S (Dq.bl _)
theorem pdt_isN {da db : DE} (ha : PD X a da) (hb : PD X b db) : PDT X (.Compare a [.Is] [b] pos) (dTst (dOp oIsN da db)) := pdt_cmp op_isN (nomark _) ref_isn ha hb
theorem pdt_notN {da db : DE} (ha : PD X a da) (hb : PD X b db) : PDT X (.Compare a [.IsNot] [b] pos) (dTst (dOp oNotN da db)) := pdt_cmp op_notN (nomark _) ref_notn ha hb
/-- a if t else b -/
def dIf (t : DT) (da db : DE) : DE := fun g k => t g fun c g1 => if c = true then da g1 k else db g1 k
theorem pd_if {t : DT} {da db : DE} (hc : PDT X c t) (ha : PD X a da) (hb : PD X b db) : PD X (.IfExp c a b pos) (dIf t da db) := pe_imp (pe_ifExp hc ha hb) fun s H Q ⟨F, g, tm, k, B, al, S, hk, q⟩ =>
  ⟨F, g, tm, _, B, al, S, hk, fun c H1 g1 B1 al1 hk1 S1 => by
    cases c with
    | true => exact iteT ⟨F, g1, tm, k, B1, al1, S1, hk1, q⟩
    | false => exact iteF ⟨F, g1, tm, k, B1, al1, S1, hk1, q⟩⟩
/-- a < b < c of whole numbers and the like -/
def dChain (o1 o2 : D2) (da db dc : DE) : DE := fun g k => da g fun r1 g1 => db g1 fun r2 g2 => o1 r1 r2 g2 fun r3 g3 => ∃ c, r3 = .d (.bool c) ∧ if c = true then dc g3 fun r4 g4 => o2 r2 r4 g4 k else k (.d (.bool false)) g3
theorem ref_chain {K : PySem.W.Frag} {r r' : R2} {o1 o2 : D2} {da db dc : DE} (h1 : RefOp K r o1) (h2 : RefOp K r' o2) : ∀ s H Q, lift K (dChain o1 o2 da db dc) s H Q → tChain r r' (lift K da) (lift K db) (lift K dc) s H Q :=
  fun s H Q ⟨F, g, tm, k, B, al, S, hk, q⟩ => ⟨F, g, tm, _, B, al, S, hk, fun x H1 r1 g1 B1 al1 hk1 S1 => ⟨F, g1, (x, r1) :: tm, _, B1, al1, S1, hk1, fun y H2 r2 g2 B2 al2 hk2 S2 =>
    h1 F g2 ((y, r2) :: tm) s H2 B2 al2 x y r1 r2 _ _ (S2.temps fun p hp => by
      rcases List.mem_cons.mp hp with e | e
      · rw [e]; exact List.mem_cons_self
      · exact List.mem_cons_of_mem _ (List.mem_cons_of_mem _ e)) (S2.tm (x, r1) (by simp)) (S2.tm (y, r2) (by simp)) hk2 fun v H3 r3 g3 B3 al3 ⟨c, e, hk3⟩ S3 rv => by
      subst e
      cases dq_bool rv
      refine ⟨c, rfl, ?_⟩
      cases c with
      | true => exact iteT ⟨F, g3, (y, r2) :: tm, _, B3, al3, S3, hk3, fun w H4 r4 g4 B4 al4 hk4 S4 =>
          h2 F g4 tm s H4 B4 al4 y w r2 r4 k Q (S4.temps fun p hp => List.mem_cons_of_mem _ (List.mem_cons_of_mem _ hp)) (S4.tm (y, r2) (by simp)) (S4.tm (w, r4) (by simp)) hk4 fun v H' r g' B' al' hr S' rv => q v H' r g' B' al' hr (S'.push rv)⟩
      | false => exact iteF (q _ H3 _ g3 B3 al3 hk3 ((S3.temps fun p hp => List.mem_cons_of_mem _ hp).push (Dq.bl _)))⟩⟩
end
end DL

set_option Elab.async false
set_option linter.all false
set_option maxRecDepth 100000
set_option maxHeartbeats 4000000
set_option autoImplicit false
namespace DL
open PySem PySem.Spec PyProof.Rows L2
section
variable {X : Cx} {e a b c tg : Expr} {es : List Expr} {pos : Pos}
/-! ### chains -/
theorem pd_lele {da db dc : DE} (ha : PD X a da) (hb : PD X b db) (hc : PD X c dc) (hm : lastMarks [.LtE, .LtE] [b, c] = false := by with_unfolding_all rfl) : PD X (.Compare a [.LtE, .LtE] [b, c] pos) (dChain oLe oLe da db dc) :=
  pe_imp (pe_chain op_le op_le ha hb hc hm) (ref_chain (ref_I0 fun _ _ _ => .bl _) (ref_I0 fun _ _ _ => .bl _))
theorem pd_lelt {da db dc : DE} (ha : PD X a da) (hb : PD X b db) (hc : PD X c dc) (hm : lastMarks [.LtE, .Lt] [b, c] = false := by with_unfolding_all rfl) : PD X (.Compare a [.LtE, .Lt] [b, c] pos) (dChain oLe oLt da db dc) :=
  pe_imp (pe_chain op_le op_lt ha hb hc hm) (ref_chain (ref_I0 fun _ _ _ => .bl _) (ref_I0 fun _ _ _ => .bl _))
theorem pd_ltlt {da db dc : DE} (ha : PD X a da) (hb : PD X b db) (hc : PD X c dc) (hm : lastMarks [.Lt, .Lt] [b, c] = false := by with_unfolding_all rfl) : PD X (.Compare a [.Lt, .Lt] [b, c] pos) (dChain oLt oLt da db dc) :=
  pe_imp (pe_chain op_lt op_lt ha hb hc hm) (ref_chain (ref_I0 fun _ _ _ => .bl _) (ref_I0 fun _ _ _ => .bl _))
theorem pd_ltle {da db dc : DE} (ha : PD X a da) (hb : PD X b db) (hc : PD X c dc) (hm : lastMarks [.Lt, .LtE] [b, c] = false := by with_unfolding_all rfl) : PD X (.Compare a [.Lt, .LtE] [b, c] pos) (dChain oLt oLe da db dc) :=
  pe_imp (pe_chain op_lt op_le ha hb hc hm) (ref_chain (ref_I0 fun _ _ _ => .bl _) (ref_I0 fun _ _ _ => .bl _))
theorem ref_tt {K : PySem.W.Frag} {da : DE} : ∀ s H Q, liftT K (dTst da) s H Q → tTest (lift K da) s H Q := fun s H Q ⟨F, g, tm, k, B, al, S, hk, q⟩ =>
  ⟨F, g, tm, _, B, al, S, hk, fun v H1 r g1 B1 al1 ⟨c, e, hk1⟩ S1 => by
    subst e
    cases dq_bool (S1.top rfl)
    exact ⟨c, rfl, q c H1 g1 B1 al1 hk1 (S1.temps fun p hp => List.mem_cons_of_mem _ hp)⟩⟩
theorem pdt_chain {op op' : CmpOp} {r r' : R2} {o1 o2 : D2} {da db dc : DE} (ho : OpR X (compareOp op) r) (ho' : OpR X (compareOp op') r') (h1 : RefOp X.K r o1) (h2 : RefOp X.K r' o2) (ha : PD X a da) (hb : PD X b db) (hc : PD X c dc)
    (hm : lastMarks [op, op'] [b, c] = false := by with_unfolding_all rfl) : PDT X (.Compare a [op, op'] [b, c] pos) (dTst (dChain o1 o2 da db dc)) :=
  pt_imp (pt_chain ho ho' ha hb hc hm) fun s H Q hq => ref_chain h1 h2 s H _ (ref_tt s H Q hq)
theorem pdt_lele {da db dc : DE} (ha : PD X a da) (hb : PD X b db) (hc : PD X c dc) (hm : lastMarks [.LtE, .LtE] [b, c] = false := by with_unfolding_all rfl) : PDT X (.Compare a [.LtE, .LtE] [b, c] pos) (dTst (dChain oLe oLe da db dc)) :=
  pdt_chain op_le op_le (ref_I0 fun _ _ _ => .bl _) (ref_I0 fun _ _ _ => .bl _) ha hb hc hm
theorem pdt_lelt {da db dc : DE} (ha : PD X a da) (hb : PD X b db) (hc : PD X c dc) (hm : lastMarks [.LtE, .Lt] [b, c] = false := by with_unfolding_all rfl) : PDT X (.Compare a [.LtE, .Lt] [b, c] pos) (dTst (dChain oLe oLt da db dc)) :=
  pdt_chain op_le op_lt (ref_I0 fun _ _ _ => .bl _) (ref_I0 fun _ _ _ => .bl _) ha hb hc hm
theorem pdt_ltlt {da db dc : DE} (ha : PD X a da) (hb : PD X b db) (hc : PD X c dc) (hm : lastMarks [.Lt, .Lt] [b, c] = false := by with_unfolding_all rfl) : PDT X (.Compare a [.Lt, .Lt] [b, c] pos) (dTst (dChain oLt oLt da db dc)) :=
  pdt_chain op_lt op_lt (ref_I0 fun _ _ _ => .bl _) (ref_I0 fun _ _ _ => .bl _) ha hb hc hm
theorem pdt_ltle {da db dc : DE} (ha : PD X a da) (hb : PD X b db) (hc : PD X c dc) (hm : lastMarks [.Lt, .LtE] [b, c] = false := by with_unfolding_all rfl) : PDT X (.Compare a [.Lt, .LtE] [b, c] pos) (dTst (dChain oLt oLe da db dc)) :=
  pdt_chain op_lt op_le (ref_I0 fun _ _ _ => .bl _) (ref_I0 fun _ _ _ => .bl _) ha hb hc hm

/-! ### targets; ws: the slots they may set -/
abbrev DGs := List R → G → (G → Prop) → Prop
def liftG (K : PySem.W.Frag) (ws : List Nat) (dg : DG) : TG := fun v s H Q => ∃ F g tm r k B al, Stt K F g tm s H B al ∧ RvOk K B al v r ∧ dg r g k ∧ ∀ s' H' g' B' al', k g' → Stt K F g' tm s' H' B' al' → wipe s' ws = wipe s ws → Q s' H'
def liftGs (K : PySem.W.Frag) (ws : List Nat) (dg : DGs) : TGs := fun vs s H Q => ∃ F g tm rs k B al, Stt K F g tm s H B al ∧ Paired (RvOk K B al) vs rs ∧ dg rs g k ∧ ∀ s' H' g' B' al', k g' → Stt K F g' tm s' H' B' al' → wipe s' ws = wipe s ws → Q s' H'
abbrev PDG (X : Cx) (ws : List Nat) (tg : Expr) (dg : DG) : Prop := PG X tg (liftG X.K ws dg)
abbrev PDGs (X : Cx) (ws : List Nat) (tgs : List Expr) (dg : DGs) : Prop := PGs X tgs (liftGs X.K ws dg)
theorem pg_imp {t t' : TG} (h : PG X tg t) (i : ∀ v s H Q, t' v s H Q → t v s H Q) : PG X tg t' := ⟨fun pins s σ H v u Q I r q => h.run pins s σ H v u Q I r (i v σ H Q q)⟩
theorem pgs_imp {t t' : TGs} (h : PGs X es t) (i : ∀ v s H Q, t' v s H Q → t v s H Q) : PGs X es t' := ⟨fun pins s σ H v u Q I r q => h.run pins s σ H v u Q I r (i v σ H Q q)⟩
theorem wipe_set {s : L2.St} {v : Option V} {i : Nat} : ∀ {ws : List Nat}, i ∈ ws → wipe (s.set i v) ws = wipe s ws
  | [], h => by cases h
  | w :: ws, h => by
    unfold wipe
    by_cases e : i ∈ ws
    · rw [wipe_set e]
    · have ew : i = w := by
        rcases List.mem_cons.mp h with z | z
        · exact z
        · exact absurd z e
      subst ew
      have gen : ∀ us : List Nat, i ∉ us → (wipe (s.set i v) us).set i none = (wipe s us).set i none := by
        intro us
        induction us with
        | nil => intro _; unfold wipe; rw [List.set_set]
        | cons u us ih =>
          intro hu
          unfold wipe
          have h1 : i ≠ u := fun z => hu (z ▸ List.mem_cons_self)
          rw [List.set_comm _ _ (Ne.symm h1), ih (fun z => hu (List.mem_cons_of_mem _ z)), List.set_comm _ _ h1]
      exact gen ws e
def gN (i : Nat) : DG := fun r g k => k { g with sl := g.sl.set i (some r) }
theorem pdg_name {ws : List Nat} (i : Nat) {x : Str} (hN : X.N.Nodup) (hw : i ∈ ws) (hi : X.N[i]? = some x) (hx : Loc X.env.scope x) (hf : X.fn x = true ∨ X.env.scope.names.lookup x = some .local := by first | exact .inl rfl | exact .inr rfl | assumption) : PDG X ws (.Name x pos) (gN i) :=
  pg_imp (pg_name hN hi hx hf) fun v s H Q ⟨F, g, tm, r, k, B, al, S, hv, hk, q⟩ => q _ H _ B al hk (S.store hv) (wipe_set hw)
def gsN : DGs := fun rs g k => rs = [] ∧ k g
def gsC (t : DG) (u : DGs) : DGs := fun rs g k => ∃ r rs', rs = r :: rs' ∧ t r g fun g1 => u rs' g1 k
theorem pdgs_nil {ws : List Nat} : PDGs X ws [] gsN := pgs_imp pgs_nil fun vs s H Q ⟨F, g, tm, rs, k, B, al, S, hv, ⟨e, hk⟩, q⟩ => by
  subst e
  cases hv
  exact ⟨rfl, q _ H _ B al hk S rfl⟩
theorem Stt.pushes {K : PySem.W.Frag} {F : Fm} {g : G} {tm : List (V × R)} {s : L2.St} {H B : Hp} {al : List Addr} {vs : List V} {rs : List R} (S : Stt K F g tm s H B al) (h : Paired (RvOk K B al) vs rs) : Stt K F g (vs.zip rs ++ tm) s H B al := by
  induction h with
  | nil => exact S
  | cons a b ih => exact ih.push a
theorem paired_of {K : PySem.W.Frag} {B : Hp} {al : List Addr} : ∀ {vs : List V} {rs : List R}, vs.length = rs.length → (∀ p ∈ vs.zip rs, RvOk K B al p.1 p.2) → Paired (RvOk K B al) vs rs
  | [], [], _, _ => .nil
  | v :: vs, r :: rs, hl, h => .cons (h (v, r) (by simp)) (paired_of (by simpa using hl) fun p hp => h p (by rw [List.zip_cons_cons]; exact List.mem_cons_of_mem _ hp))
  | [], _ :: _, hl, _ => by simp at hl
  | _ :: _, [], hl, _ => by simp at hl
theorem pdgs_cons {ws : List Nat} {t : DG} {u : DGs} (h1 : PDG X ws e t) (h2 : PDGs X ws es u) (hs : (assignEach (e :: es) X.env).map (·.2) = assign e X.env :: (assignEach es X.env).map (·.2) := by rfl) : PDGs X ws (e :: es) (gsC t u) :=
  pgs_imp (pgs_cons h1 h2 hs) fun vs s H Q ⟨F, g, tm, rs, k, B, al, S, hv, ⟨r, rs', er, hk⟩, q⟩ => by
    subst er
    cases hv with
    | @cons v _ vs' _ a b =>
      refine ⟨v, vs', rfl, F, g, vs'.zip rs' ++ tm, r, _, B, al, S.pushes b, a, hk, fun s1 H1 g1 B1 al1 hk1 S1 w1 => ?_⟩
      refine ⟨F, g1, tm, rs', k, B1, al1, S1.temps fun p hp => List.mem_append_right _ hp, paired_of b.length fun p hp => S1.tm p (List.mem_append_left _ hp), hk1, fun s2 H2 g2 B2 al2 hk2 S2 w2 => q s2 H2 g2 B2 al2 hk2 S2 (w2.trans w1)⟩
def gT (n : Nat) (t : DGs) : DG := fun r g k => ∃ ds, r = .d (.tuple ds) ∧ ds.length = n ∧ t (ds.map .d) g k
theorem dq_paired {K : PySem.W.Frag} {B : Hp} {al : List Addr} : ∀ {xs : List V} {ds : List PyData}, DqAll B xs ds → Paired (RvOk K B al) xs (ds.map .d)
  | _, _, .nil => .nil
  | _, _, .cons r t => .cons r (dq_paired t)
theorem pdg_tup {ws : List Nat} {k : Nat} {t : DGs} {n : Nat} (hc : X.calm = true) (h : PDGs X ws es t) (hn : (assignEach es X.env).length = n := by rfl) (hst : (assignEach es X.env).findIdx? (·.1) = none := by rfl) : PDG X ws (.Tuple es k pos) (gT n t) :=
  pg_imp (pg_tup hc h hn hst) fun v s H Q ⟨F, g, tm, r, k, B, al, S, hv, ⟨ds, er, hl, hk⟩, q⟩ => by
    subst er
    obtain ⟨a, xs, rfl, h1, h2⟩ := dq_tup hv
    exact ⟨a, xs, rfl, .inl (.inl (S.bh _ _ h1)), by rw [dqall_len h2]; exact hl, F, g, tm, _, k, B, al, S, dq_paired h2, hk, q⟩
/-- o[i] = v, o an own list -/
def gSubL (do_ di : DE) : DG := fun r g k => do_ g fun r1 g1 => di g1 fun r2 g2 => ∃ j ds i n x, r1 = .o j ∧ g2.ce[j]? = some (.lst ds) ∧ r2 = .d (.int i) ∧ ixN ds.length i = some n ∧ r = .d x ∧ k { g2 with ce := g2.ce.set j (.lst (ds.set n x)) }
theorem pdg_subL {ws : List Nat} {o i : Expr} {dd di : DE} (ho : PD X o dd) (hi : PD X i di)
    (ha : ∀ v, assign (.Subscript o i pos) X.env v = (do
      let ov ← holding [v] (eval o X.env)
      let iv ← holding [v, ov] (eval i X.env)
      standAt pos
      holding [v, ov, iv] (setItem ov iv v)
      release [v, ov, iv] []) := by intro _; rfl) : PDG X ws (.Subscript o i pos) (gSubL dd di) :=
  pg_imp (pg_sub ho hi set_list ha) fun v s H Q ⟨F, g, tm, r, k, B, al, S, hv, hk, q⟩ => ⟨F, g, (v, r) :: tm, _, B, al, S.push hv, hk, fun x H1 r1 g1 B1 al1 hk1 S1 => ⟨F, g1, (x, r1) :: (v, r) :: tm, _, B1, al1, S1, hk1, fun y H2 r2 g2 B2 al2 ⟨j, ds, i, n, xd, e1, e2, e3, e4, e5, hk2⟩ S2 => by
    subst e1 e3 e5
    obtain ⟨p, hp, ex⟩ := S2.tm (x, R.o j) (by simp)
    have ex : x = .ref p := ex
    subst ex
    have ey := dq_int (S2.top rfl)
    have ey : y = .int i := ey
    subst ey
    have hv2 : Dq B2 v xd := S2.tm (v, R.d xd) (by simp)
    obtain ⟨xs, h1, h2⟩ := S2.ce j p _ hp e2
    refine ⟨p, xs, i, n, rfl, rfl, h1, by rw [dqall_len h2]; exact e4, ?_⟩
    exact q s _ _ B2 al2 hk2 ((S2.temps fun z hz => List.mem_cons_of_mem _ (List.mem_cons_of_mem _ (List.mem_cons_of_mem _ hz))).put hp e2 (by simp) ⟨_, upd_same, dqall_set hv2 n h2⟩) rfl⟩⟩
end

/-! ### statements -/
section
variable {X : Cx} {st : Stmt} {rest : List Stmt} {e c tg : Expr} {pos : Pos} {K : PySem.W.Frag}
def sNext : DS := fun E g => E.nx g
def sSeq (t u : DS) : DS := fun E g => t { E with nx := u E } g
theorem pdss_nil : PDSs X [] sNext := pss_imp pss_nil fun D s H ⟨F, g, tm, E, B, al, S, h, ok⟩ => ok.nx s H g B al h S
theorem pdss_cons {t u : DS} (h1 : PDS X st t) (h2 : PDSs X rest u) : PDSs X (st :: rest) (sSeq t u) := pss_imp (pss_cons h1 h2) fun D s H ⟨F, g, tm, E, B, al, S, h, ok⟩ =>
  ⟨F, g, tm, { E with nx := u E }, B, al, S, h, ⟨fun s1 H1 g1 B1 al1 hk S1 => ⟨F, g1, tm, E, B1, al1, S1, hk, ok⟩, ok.rt, ok.bk, ok.ct⟩⟩
theorem pdss_one {t : DS} (h1 : PDS X st t) : PDSs X [st] t := pss_one h1
theorem pds_pass : PDS X (.Pass pos) sNext := ps_imp ps_pass fun D s H ⟨F, g, tm, E, B, al, S, h, ok⟩ => ok.nx s H g B al h S
def sCont : DS := fun E g => E.ct g
theorem pds_continue : PDS X (.Continue pos) sCont := ps_imp ps_continue fun D s H ⟨F, g, tm, E, B, al, S, h, ok⟩ => ok.ct s H g B al h S
def sNever : DS := fun _ _ => False
theorem pds_never : PDS X st sNever := ps_imp ps_never fun D s H ⟨F, g, tm, E, B, al, S, h, ok⟩ => h.elim
theorem pdss_never {sts : List Stmt} : PDSs X sts sNever := pss_imp pss_never fun D s H ⟨F, g, tm, E, B, al, S, h, ok⟩ => h.elim
def sExpr (de : DE) : DS := fun E g => de g fun _ g1 => E.nx g1
theorem pds_expr {de : DE} (he : PD X e de) (hs : swapsWith e none pos.line X.env = pure false := by rfl) : PDS X (.Expr e pos) (sExpr de) := ps_imp (ps_expr he hs) fun D s H ⟨F, g, tm, E, B, al, S, h, ok⟩ =>
  ⟨F, g, tm, _, B, al, S, h, fun v H1 r g1 B1 al1 hk S1 => ok.nx s H1 g1 B1 al1 hk (S1.temps fun p hp => List.mem_cons_of_mem _ hp)⟩
def sRet (de : DE) : DS := fun E g => de g E.rt
theorem pds_ret {de : DE} (he : PD X e de) : PDS X (.Return (some e) pos) (sRet de) := ps_imp (ps_ret he) fun D s H ⟨F, g, tm, E, B, al, S, h, ok⟩ =>
  ⟨F, g, tm, _, B, al, S, h, fun v H1 r g1 B1 al1 hk S1 => ok.rt s v H1 r g1 B1 al1 hk S1⟩
def sRetN : DS := fun E g => E.rt (.d .none) g
theorem pds_retN : PDS X (.Return none pos) sRetN := ps_imp ps_retN fun D s H ⟨F, g, tm, E, B, al, S, h, ok⟩ => ok.rt s .non H _ g B al h (S.push Dq.non)
def sIf (t : DT) (a b : DS) : DS := fun E g => t g fun c g1 => if c = true then a E g1 else b E g1
theorem pds_if {a b : List Stmt} {t : DT} {u v : DS} (hc : PDT X c t) (ha : PDSs X a u) (hb : PDSs X b v) : PDS X (.If c a b pos) (sIf t u v) := ps_imp (ps_if hc ha hb) fun D s H ⟨F, g, tm, E, B, al, S, h, ok⟩ =>
  ⟨F, g, tm, _, B, al, S, h, fun b H1 g1 B1 al1 hk S1 => by
    cases b with
    | true => exact iteT ⟨F, g1, tm, E, B1, al1, S1, hk, ok⟩
    | false => exact iteF ⟨F, g1, tm, E, B1, al1, S1, hk, ok⟩⟩
def sAsg (de : DE) (dg : DG) : DS := fun E g => de g fun r g1 => dg r g1 E.nx
theorem ref_asg {ws : List Nat} {de : DE} {dg : DG} : ∀ D s H, liftS K (sAsg de dg) D s H → tAsg (lift K de) (liftG K ws dg) D s H := fun D s H ⟨F, g, tm, E, B, al, S, h, ok⟩ =>
  ⟨F, g, tm, _, B, al, S, h, fun v H1 r g1 B1 al1 hk S1 => ⟨F, g1, tm, r, _, B1, al1, S1.temps fun p hp => List.mem_cons_of_mem _ hp, S1.top rfl, hk, fun s' H' g' B' al' hk' S' _ => ok.nx s' H' g' B' al' hk' S'⟩⟩
theorem pds_asg {ws : List Nat} {de : DE} {dg : DG} (he : PD X e de) (hg : PDG X ws tg dg) (hs : swapsWithSole [tg] e pos.line X.env = pure false := by rfl) (hw : swappedStores [tg] e X.env = pure none := by rfl)
    (h1 : (assignEach [tg] X.env).map (·.2) = [assign tg X.env] := by rfl) : PDS X (.Assign [tg] e pos) (sAsg de dg) := ps_imp (ps_asg he hg hs hw h1) ref_asg
theorem ref_asgN {i : Nat} {de : DE} : ∀ D s H, liftS K (sAsg de (gN i)) D s H → tAsg (lift K de) (gName i) D s H := fun D s H ⟨F, g, tm, E, B, al, S, h, ok⟩ =>
  ⟨F, g, tm, _, B, al, S, h, fun v H1 r g1 B1 al1 hk S1 => ok.nx _ H1 _ B1 al1 hk ((S1.temps (tm' := tm) fun p hp => List.mem_cons_of_mem _ hp).store (S1.top rfl))⟩
theorem pds_set {i : Nat} {x : Str} {de : DE} {pos' : Pos} (hN : X.N.Nodup) (hi : X.N[i]? = some x) (hx : Loc X.env.scope x) (he : PD X e de) (hs : swapsWith e (some (.Name x pos')) pos.line X.env = pure false := by rfl)
    (hf : X.fn x = true ∨ X.env.scope.names.lookup x = some .local := by first | exact .inl rfl | exact .inr rfl | assumption) : PDS X (.Assign [.Name x pos'] e pos) (sAsg de (gN i)) := ps_imp (ps_set hN hi hx he hs hf) ref_asgN
/-- a, b = x, y -/
def sPar (i j : Nat) (da : DA) : DS := fun E g => da g fun rs g1 => ∃ r1 r2, rs = [r1, r2] ∧ E.nx { g1 with sl := (g1.sl.set i (some r1)).set j (some r2) }
theorem pds_par {i j : Nat} {x y : Str} {a b : Expr} {da : DA} {px py pt : Pos} {kt k2 pt2} (hc : X.calm = true) (hN : X.N.Nodup) (hi : X.N[i]? = some x) (hj : X.N[j]? = some y) (hij : i ≠ j)
    (hx : X.env.scope.names.lookup x = some .local) (hy : X.env.scope.names.lookup y = some .local) (ha : PDA X [a, b] da) (hw : swappedStores [.Tuple [.Name x px, .Name y py] kt pt] (.Tuple [a, b] k2 pt2) X.env = pure (some [x, y]))
    (hs : swapsWithSole [.Tuple [.Name x px, .Name y py] kt pt] (.Tuple [a, b] k2 pt2) pos.line X.env = pure false := by rfl) : PDS X (.Assign [.Tuple [.Name x px, .Name y py] kt pt] (.Tuple [a, b] k2 pt2) pos) (sPar i j da) :=
  ps_imp (ps_par hc hN hi hj hij hx hy ha hw hs) fun D s H ⟨F, g, tm, E, B, al, S, h, ok⟩ => ⟨F, g, tm, _, B, al, S, h, fun vs H1 rs g1 B1 al1 ⟨r1, r2, er, hk⟩ S1 pr => by
    subst er
    obtain ⟨v, w, rfl, hv, hw⟩ := pair2 pr
    exact ⟨v, w, rfl, ok.nx _ H1 _ B1 al1 hk ((S1.store hv).store hw)⟩⟩
def sPar3 (i j l : Nat) (da : DA) : DS := fun E g => da g fun rs g1 => ∃ r1 r2 r3, rs = [r1, r2, r3] ∧ E.nx { g1 with sl := ((g1.sl.set i (some r1)).set j (some r2)).set l (some r3) }
theorem pair3 {B : Hp} {al : List Addr} {vs : List V} {r r' r'' : R} (h : Paired (RvOk K B al) vs [r, r', r'']) : ∃ v w z, vs = [v, w, z] ∧ RvOk K B al v r ∧ RvOk K B al w r' ∧ RvOk K B al z r'' := by
  cases h with
  | cons a b =>
    obtain ⟨w, z, e, h1, h2⟩ := pair2 b
    subst e
    exact ⟨_, _, _, rfl, a, h1, h2⟩
theorem pds_par3 {i j l : Nat} {x y z : Str} {a b c : Expr} {da : DA} {px py pz pt : Pos} {kt k2 pt2} (hc : X.calm = true) (hN : X.N.Nodup) (hi : X.N[i]? = some x) (hj : X.N[j]? = some y) (hl : X.N[l]? = some z) (hij : i ≠ j) (hil : i ≠ l) (hjl : j ≠ l)
    (hx : X.env.scope.names.lookup x = some .local) (hy : X.env.scope.names.lookup y = some .local) (hz : X.env.scope.names.lookup z = some .local) (ha : PDA X [a, b, c] da)
    (hw : swappedStores [.Tuple [.Name x px, .Name y py, .Name z pz] kt pt] (.Tuple [a, b, c] k2 pt2) X.env = pure (some [x, y, z]))
    (hs : swapsWithSole [.Tuple [.Name x px, .Name y py, .Name z pz] kt pt] (.Tuple [a, b, c] k2 pt2) pos.line X.env = pure false := by rfl) : PDS X (.Assign [.Tuple [.Name x px, .Name y py, .Name z pz] kt pt] (.Tuple [a, b, c] k2 pt2) pos) (sPar3 i j l da) :=
  ps_imp (ps_par3 hc hN hi hj hl hij hil hjl hx hy hz ha hw hs) fun D s H ⟨F, g, tm, E, B, al, S, h, ok⟩ => ⟨F, g, tm, _, B, al, S, h, fun vs H1 rs g1 B1 al1 ⟨r1, r2, r3, er, hk⟩ S1 pr => by
    subst er
    obtain ⟨v, w, z, rfl, hv, hw, hz⟩ := pair3 pr
    exact ⟨v, w, z, rfl, ok.nx _ H1 _ B1 al1 hk (((S1.store hv).store hw).store hz)⟩⟩
/-- x op= e of whole numbers -/
def sAug (i : Nat) (f : Int → Int → Int) (de : DE) : DS := fun E g => ∃ n, g.sl[i]? = some (some (.d (.int n))) ∧ de g fun r g1 => ∃ m, r = .d (.int m) ∧ E.nx { g1 with sl := g1.sl.set i (some (.d (.int (f n m)))) }
theorem ref_aug {i : Nat} {f : Int → Int → Int} {de : DE} : ∀ D s H, liftS K (sAug i f de) D s H → tAug i (lift K de) (ipI f) D s H := fun D s H ⟨F, g, tm, E, B, al, S, ⟨n, hn, h⟩, ok⟩ => by
  obtain ⟨v, h1, h2⟩ := S.sl i _ hn
  cases dq_int h2
  refine ⟨_, h1, F, g, tm, _, B, al, S, h, fun v H1 r g1 B1 al1 ⟨m, er, hk⟩ S1 => ?_⟩
  subst er
  cases dq_int (S1.top rfl)
  exact ⟨n, m, rfl, rfl, ok.nx _ H1 _ B1 al1 hk ((S1.temps (tm' := tm) fun p hp => List.mem_cons_of_mem _ hp).store (Dq.int _))⟩
theorem pds_augAdd {i : Nat} {x : Str} {de : DE} {pos' : Pos} (hN : X.N.Nodup) (hi : X.N[i]? = some x) (hx : Loc X.env.scope x) (he : PD X e de) (hf : X.fn x = true ∨ X.env.scope.names.lookup x = some .local := by first | exact .inl rfl | exact .inr rfl | assumption) :
    PDS X (.AugAssign (.Name x pos') .Add e pos) (sAug i (fun a b => a + b) de) := ps_imp (ps_aug hN hi hx he ip_add hf) ref_aug
theorem pds_augSub {i : Nat} {x : Str} {de : DE} {pos' : Pos} (hN : X.N.Nodup) (hi : X.N[i]? = some x) (hx : Loc X.env.scope x) (he : PD X e de) (hf : X.fn x = true ∨ X.env.scope.names.lookup x = some .local := by first | exact .inl rfl | exact .inr rfl | assumption) :
    PDS X (.AugAssign (.Name x pos') .Sub e pos) (sAug i (fun a b => a - b) de) := ps_imp (ps_aug hN hi hx he ip_sub hf) ref_aug

/-! ### while -/
def sWhile (t : DT) (u : DS) : DS := fun E g => ∃ W : Nat → G → Prop, (∃ m, W m g) ∧ ∀ m g, W m g → t g fun c g1 => if c = true then u { E with nx := fun g' => ∃ m', m' < m ∧ W m' g', ct := fun g' => ∃ m', m' < m ∧ W m' g', bk := E.nx } g1 else E.nx g1
theorem pds_while {body : List Stmt} {t : DT} {u : DS} (hp : PassesOwn (model X.prog X.w) X.A X.env X.xe) (hc : PDT X c t) (hb : PDSs X body u) : PDS X (.While c body [] pos) (sWhile t u) :=
  ps_imp (ps_while hp hc hb) fun D s H ⟨F, g, tm, E, B, al, S, ⟨W, ⟨m0, w0⟩, turn⟩, ok⟩ => by
    refine ⟨fun m s H => ∃ g B al, Stt X.K F g tm s H B al ∧ W m g, ⟨m0, g, B, al, S, w0⟩, ?_⟩
    rintro m s1 H1 ⟨g1, B1, al1, S1, w1⟩
    refine ⟨F, g1, tm, _, B1, al1, S1, turn m g1 w1, fun b H2 g2 B2 al2 hk S2 => ?_⟩
    cases b with
    | true =>
      refine iteT ⟨fun s' H' => ∃ g B al, Stt X.K F g tm s' H' B al ∧ ∃ m', m' < m ∧ W m' g, fun s' H' ⟨g', B', al', S', m', hm, w'⟩ => ⟨m', hm, g', B', al', S', w'⟩, ?_⟩
      exact ⟨F, g2, tm, _, B2, al2, S2, hk, ⟨fun s' H' g' B' al' h' S' => ⟨g', B', al', S', h'⟩, ok.rt, fun s' H' g' B' al' h' S' => ok.nx s' H' g' B' al' h' S', fun s' H' g' B' al' h' S' => ⟨g', B', al', S', h'⟩⟩⟩
    | false => exact iteF (ok.nx s1 H2 g2 B2 al2 hk S2)

/-! ### what is walked -/
abbrev DI := G → (List PyData → G → Prop) → Prop
def WalkOk (K : PySem.W.Frag) (B0 : Hp) (J : It) (ds : List PyData) : Prop := ∀ F g tm s H B al i, Stt K F g tm s H B al → Same B0 B →
  (∀ d, ds[i]? = some d → J.go i H ∧ ∀ x H', J.yld i H x H' → ∃ B', Stt K F g tm s H' B' al ∧ Same B B' ∧ Dq B' x d) ∧ (i = ds.length → J.stop i H)
def liftI (K : PySem.W.Frag) (di : DI) : TI := fun s H Q => ∃ F g tm k B al, Stt K F g tm s H B al ∧ di g k ∧ ∀ J H' ds g' B' al', k ds g' → Stt K F g' tm s H' B' al' → WalkOk K B' J ds → Q J H'
abbrev PDI (X : Cx) (tg iter : Expr) (di : DI) : Prop := PI X tg iter (liftI X.K di)
theorem pi_imp {iter : Expr} {t t' : TI} (h : PI X tg iter t) (i : ∀ s H Q, t' s H Q → t s H Q) : PI X tg iter t' := ⟨fun pins s σ H Q I q => h.run pins s σ H Q I (i σ H Q q)⟩
theorem walk_list {B : Hp} {a : Addr} {xs : List V} {ds : List PyData} (ha : B a = some (.lst xs)) (h : DqAll B xs ds) : WalkOk K B (Itl K a) ds := fun F g tm s H B1 al i S e => by
  have hq : SqL K H a xs := .inl (.inl (S.bh _ _ (e _ _ ha)))
  refine ⟨fun d hd => ?_, fun hi => ⟨xs, hq, by rw [dqall_len h]; omega⟩⟩
  obtain ⟨x, h1, h2⟩ := dqall_get h hd
  refine ⟨⟨xs, x, hq, h1⟩, fun y H' ⟨e1, e2⟩ => ?_⟩
  subst e1
  have ey := e2 xs hq
  rw [h1] at ey
  cases ey
  exact ⟨B1, S, Same.refl _, dq_mono e h2⟩
theorem walk_tup {B : Hp} {a : Addr} {xs : List V} {ds : List PyData} (ha : B a = some (.tup xs)) (h : DqAll B xs ds) : WalkOk K B (Itt K a) ds := fun F g tm s H B1 al i S e => by
  have hq : SqT K H a xs := .inl (.inl (S.bh _ _ (e _ _ ha)))
  refine ⟨fun d hd => ?_, fun hi => ⟨xs, hq, by rw [dqall_len h]; omega⟩⟩
  obtain ⟨x, h1, h2⟩ := dqall_get h hd
  refine ⟨⟨xs, x, hq, h1⟩, fun y H' ⟨e1, e2⟩ => ?_⟩
  subst e1
  have ey := e2 xs hq
  rw [h1] at ey
  cases ey
  exact ⟨B1, S, Same.refl _, dq_mono e h2⟩
/-- the whole numbers lo, lo + 1, .. -/
def rng (lo : Int) (n : Nat) : List PyData := (List.range n).map fun (i : Nat) => .int (lo + i)
theorem walk_rng {B : Hp} {lo : Int} {n : Nat} : WalkOk K B (Itr lo n) (rng lo n) := fun F g tm s H B1 al i S e => by
  have hl : (rng lo n).length = n := by unfold rng; rw [List.length_map, List.length_range]
  refine ⟨fun d hd => ?_, fun hi => by rw [hi, hl]; exact Nat.le_refl _⟩
  have hi : i < n := by
    have z := (List.getElem?_eq_some_iff.mp hd).1
    rw [hl] at z
    exact z
  have ed : d = .int (lo + i) := by
    unfold rng at hd
    rw [List.getElem?_map, List.getElem?_range hi] at hd
    exact (Option.some.inj hd).symm
  subst ed
  refine ⟨hi, fun y H' ⟨e1, e2⟩ => ?_⟩
  subst e1 e2
  exact ⟨B1, S, Same.refl _, Dq.int _⟩
/-- over a shared list, a tuple -/
def iL (de : DE) : DI := fun g k => de g fun r g1 => ∃ ds, r = .d (.list ds) ∧ k ds g1
def iT (de : DE) : DI := fun g k => de g fun r g1 => ∃ ds, r = .d (.tuple ds) ∧ k ds g1
theorem pdi_list {l : Expr} {de : DE} (h : PD X l de) : PDI X tg l (iL de) := pi_imp (pi_list h) fun s H Q ⟨F, g, tm, k, B, al, S, hk, q⟩ => ⟨F, g, tm, _, B, al, S, hk, fun v H1 r g1 B1 al1 ⟨ds, er, hk1⟩ S1 => by
    subst er
    obtain ⟨a, xs, e0, h1, h2⟩ := dq_list (S1.top rfl)
    have e0 : v = .ref a := e0
    subst e0
    exact ⟨a, rfl, ⟨xs, .inl (.inl (S1.bh _ _ h1))⟩, q _ H1 ds g1 B1 al1 hk1 (S1.temps fun p hp => List.mem_cons_of_mem _ hp) (walk_list h1 h2)⟩⟩
theorem pdi_tup {l : Expr} {de : DE} (h : PD X l de) : PDI X tg l (iT de) := pi_imp (pi_tup h) fun s H Q ⟨F, g, tm, k, B, al, S, hk, q⟩ => ⟨F, g, tm, _, B, al, S, hk, fun v H1 r g1 B1 al1 ⟨ds, er, hk1⟩ S1 => by
    subst er
    obtain ⟨a, xs, e0, h1, h2⟩ := dq_tup (S1.top rfl)
    have e0 : v = .ref a := e0
    subst e0
    exact ⟨a, rfl, ⟨xs, .inl (.inl (S1.bh _ _ h1))⟩, q _ H1 ds g1 B1 al1 hk1 (S1.temps fun p hp => List.mem_cons_of_mem _ hp) (walk_tup h1 h2)⟩⟩
def iR1 (da : DA) : DI := fun g k => da g fun rs g1 => ∃ j : Int, rs = [.d (.int j)] ∧ -(2 ^ 62) ≤ j ∧ j < 2 ^ 62 ∧ k (rng 0 j.toNat) g1
theorem pdi_range1 {a : Expr} {da : DA} {p : Pos} (hg : Gl X "range") (hm : X.mg "range" = none) (ha : PDA X [a] da) (hs : starEach [a] X.env = [(false, eval a X.env)] := by rfl) : PDI X tg (.Call (.Name "range" p) [a] [] pos) (iR1 da) :=
  pi_imp (pi_range1 hg hm ha hs) fun s H Q ⟨F, g, tm, k, B, al, S, hk, q⟩ => ⟨F, g, tm, _, B, al, S, hk, fun vs H1 rs g1 B1 al1 ⟨j, er, h1, h2, hk1⟩ S1 pr => by
    subst er
    obtain ⟨v, rfl, hv⟩ := pair1 pr
    cases dq_int hv
    exact ⟨j, rfl, h1, h2, q _ H1 _ g1 B1 al1 hk1 S1 walk_rng⟩⟩
def iR2 (da : DA) : DI := fun g k => da g fun rs g1 => ∃ i j : Int, rs = [.d (.int i), .d (.int j)] ∧ (-(2 ^ 62) ≤ i ∧ i < 2 ^ 62 ∧ -(2 ^ 62) ≤ j ∧ j < 2 ^ 62) ∧ k (rng i (j - i).toNat) g1
theorem pdi_range2 {a b : Expr} {da : DA} {p : Pos} (hg : Gl X "range") (hm : X.mg "range" = none) (ha : PDA X [a, b] da) (hs : starEach [a, b] X.env = [(false, eval a X.env), (false, eval b X.env)] := by rfl) (hs2 : starEach [b] X.env = [(false, eval b X.env)] := by rfl) :
    PDI X tg (.Call (.Name "range" p) [a, b] [] pos) (iR2 da) :=
  pi_imp (pi_range2 hg hm ha hs hs2) fun s H Q ⟨F, g, tm, k, B, al, S, hk, q⟩ => ⟨F, g, tm, _, B, al, S, hk, fun vs H1 rs g1 B1 al1 ⟨i, j, er, h1, hk1⟩ S1 pr => by
    subst er
    obtain ⟨v, w, rfl, hv, hw⟩ := pair2 pr
    cases dq_int hv
    cases dq_int hw
    exact ⟨i, j, rfl, h1, q _ H1 _ g1 B1 al1 hk1 S1 walk_rng⟩⟩

/-! ### for -/
theorem Stt.reframe {F F' : Fm} {g : G} {tm : List (V × R)} {s : L2.St} {H B : Hp} {al : List Addr} (S : Stt K F g tm s H B al) (h1 : Same F'.B B) (h2 : F'.O = F.O) (h3 : F'.P = F.P) : Stt K F' g tm s H B al :=
  { S with fb := h1, fo := by rw [h2]; exact S.fo, pre := by rw [h3]; exact S.pre }
def sFor (di : DI) (dg : DG) (u : DS) : DS := fun E g => di g fun ds g1 => ∃ I : Nat → G → Prop, I 0 g1 ∧ ∀ i g, I i g → (i = ds.length → E.nx g) ∧ ∀ x, ds[i]? = some x → dg (.d x) g fun g2 => u { E with nx := I (i + 1), ct := I (i + 1), bk := E.nx } g2
theorem pds_for {ws : List Nat} {iter : Expr} {body : List Stmt} {di : DI} {dg : DG} {u : DS} (hp : PassesOwn (model X.prog X.w) X.A X.env X.xe) (hc : X.calm = true) (hi : PDI X tg iter di) (hg : PDG X ws tg dg) (hb : PDSs X body u)
    (hs : ∀ x, foldedSetIterable iter X.env x = pure x := by intro _; rfl) : PDS X (.For tg iter body [] pos) (sFor di dg u) :=
  ps_imp (ps_for hp hc hi hg hb hs) fun D s H ⟨F, g, tm, E, B, al, S, h, ok⟩ => ⟨F, g, tm, _, B, al, S, h, fun J H1 ds g1 B1 al1 ⟨I, i0, turn⟩ S1 wk => by
    have fF : ∀ {g : G} {tm : List (V × R)} {s : L2.St} {H B : Hp} {al : List Addr}, Stt X.K ⟨B1, F.O, F.P⟩ g tm s H B al → Stt X.K F g tm s H B al := fun {g tm s H B al} S' => S'.reframe (S1.fb.trans S'.fb) rfl rfl
    refine ⟨fun i m s H => m = ds.length - i ∧ i ≤ ds.length ∧ ∃ g B al, I i g ∧ Stt X.K ⟨B1, F.O, F.P⟩ g tm s H B al, ⟨ds.length, rfl, Nat.zero_le _, g1, B1, al1, i0, S1.reframe (Same.refl _) rfl rfl⟩, ?_⟩
    rintro i m s2 H2 ⟨rfl, hi, g2, B2, al2, hI, S2⟩
    obtain ⟨t1, t2⟩ := turn i g2 hI
    obtain ⟨w1, w2⟩ := wk _ g2 tm s2 H2 B2 al2 i S2 S2.fb
    by_cases hlt : i < ds.length
    · obtain ⟨go, yl⟩ := w1 _ (List.getElem?_eq_getElem hlt)
      refine .inr ⟨go, fun s H => ∃ g B al, I (i + 1) g ∧ Stt X.K ⟨B1, F.O, F.P⟩ g tm s H B al, fun s' H' ⟨g', B', al', hI', S'⟩ => ⟨ds.length - (i + 1), by omega, rfl, hlt, g', B', al', hI', S'⟩, fun x H3 hy => ?_⟩
      obtain ⟨B3, S3, e3, hd⟩ := yl x H3 hy
      refine ⟨_, g2, tm, .d _, _, B3, al2, S3, hd, t2 _ (List.getElem?_eq_getElem hlt), fun s4 H4 g4 B4 al4 hk4 S4 _ => ?_⟩
      exact ⟨_, g4, tm, _, B4, al4, S4, hk4, ⟨fun s' H' g' B' al' h' S' => ⟨g', B', al', h', S'⟩, fun s' v H' r g' B' al' h' S' => ok.rt s' v H' r g' B' al' h' (fF S'), fun s' H' g' B' al' h' S' => ok.nx s' H' g' B' al' h' (fF S'), fun s' H' g' B' al' h' S' => ⟨g', B', al', h', S'⟩⟩⟩
    · have e : i = ds.length := by omega
      exact .inl ⟨w2 e, ok.nx s2 H2 g2 B2 al2 (t1 e) (fF S2)⟩⟩
end
end DL

set_option Elab.async false
set_option linter.all false
set_option maxRecDepth 100000
set_option maxHeartbeats 4000000
set_option autoImplicit false
namespace DL
open PySem PySem.Spec PyProof.Rows L2
/-! ### sorted(x), x a tuple: the model's own steps -/
section
variable {prog : Program} {w : World} {A : Around} {E : Value → Shared → Prop} {s : Shared}
theorem collect_tupl {l : Addr} {vs : List Value} {Q : List Value → Shared → Prop} (hl : IsTup s.heap l vs.toArray)
    (h : Q vs { s with heap := (s.heap.push (seqObj "list" #[] 0)).update s.heap.objs.size (Obj.mapSeq (· ++ vs.toArray)) }) (hsz : vs.length ≤ sizeLine) : wpAny (model prog w) A (collect (.ref l)) Q E s := by
  obtain ⟨o, ho, hc, n, hd⟩ := id hl
  unfold collect
  refine wpAny_bind (wpAny_runValue (codeAny_builtin entry_proto_collect' ?_))
  show wpAny _ _ (do again (.builtin "list.__iadd__" ⟨[← newList [], .ref l], []⟩)) _ _ s
  refine wpAny_bind (wpAny_newList (wpAny_pure ⟨Code.quiet_builtin _ (by decide +kernel), codeAny_builtin entry_list_iadd' ?_⟩))
  show wpAny _ _ (Builtin.List.listExtendWith (.ref s.heap.objs.size) (.ref l) (.ref s.heap.objs.size)) _ _ { s with heap := s.heap.push (seqObj "list" #[] 0) }
  unfold Builtin.List.listExtendWith
  have ho' : (s.heap.push (seqObj "list" #[] 0)).get? l = some o := Heap.get?_push_of_some _ ho
  refine wpAny_bind (wpAny_typeOf (T := "tuple") ⟨o, ho', hc⟩ ?_)
  have ht : (Value.type "tuple" == Value.type "tuple") = true := by rfl
  rw [if_pos (by rw [ht]; simp)]
  refine wpAny_bind (listItems_at ho' hd ?_)
  refine wpAny_bind (listItems_at (xs := #[]) (n := 0) (Heap.get?_push_size _ rfl) rfl ?_)
  rw [if_neg (by simp)]
  refine wpAny_bind (listUpdate_at (xs := #[]) (n := 0) (Heap.get?_push_size _ rfl) rfl ?_ (Nat.zero_le _) (by show (#[] ++ vs.toArray).size ≤ sizeLine + 1; simp only [Array.size_append, List.size_toArray, List.length_nil]; omega))
  refine wpAny_pure ?_
  show wpAny (model prog w) A (do
      let o ← load s.heap.objs.size
      match o.data with
      | .seq xs _ => pure xs.toList
      | _ => unsupported "internal:collect") Q E { s with heap := (s.heap.push (seqObj "list" #[] 0)).update s.heap.objs.size (Obj.mapSeq (· ++ vs.toArray)) }
  refine wpAny_bind (wpAny_load (get?_update_seq (Heap.get?_push_size _ rfl) _) ?_)
  show wpAny _ _ (pure ((#[] : Array Value) ++ vs.toArray).toList) Q E _
  rw [show ((#[] : Array Value) ++ vs.toArray).toList = vs by simp]
  exact wpAny_pure h
theorem sorted_tupl {l : Addr} {vs : List Value} {ltv : Value → Value → Bool} {Q : Value → Shared → Prop} (O : SrtO.Swo ltv) (hl : IsTup s.heap l vs.toArray) (hz : vs.length ≤ sizeLine)
    (hS : 2 ≤ vs.length → ∀ (h₁ : Heap) (a : Addr), h₁.get? a = some (seqObj "list" vs.toArray 0) → (∀ b o, s.heap.get? b = some o → b ≠ a ∧ h₁.get? b = some o) → SrtO.SortableO prog w A.in1.in1 { s with heap := h₁ } a vs ltv)
    (h : ∀ out : List Value, SrtO.Srtd ltv out → SrtO.Stb ltv out vs → Q (.ref (s.heap.objs.size + 1)) { s with heap := sortedAll s.heap vs out.toArray }) :
    wpAny (model prog w) A (call (.builtin "sorted") [.ref l]) Q E s := by
  refine Calls.call_function_entry kind_sorted plain_sorted entry_sorted (args_sorted1 _) ?_
  unfold Builtin.«sorted»
  refine wpAny_bind (m := checkCount "sorted" 1 1 _) (wpAny_pure ?_)
  refine wpAny_bind (collect_tupl hl ?_ hz)
  refine wpAny_bind (wpAny_newList ?_ hz)
  have hsz : ((s.heap.push (seqObj "list" #[] 0)).update s.heap.objs.size (Obj.mapSeq (· ++ vs.toArray))).objs.size = s.heap.objs.size + 1 := by
    rw [Heap.size_update, size_push']
  have hoL : (((s.heap.push (seqObj "list" #[] 0)).update s.heap.objs.size (Obj.mapSeq (· ++ vs.toArray))).push (seqObj "list" vs.toArray 0)).get? (s.heap.objs.size + 1) = some (seqObj "list" vs.toArray 0) := by
    rw [← hsz]; exact Heap.get?_push_size _ rfl
  have keep : ∀ b o, s.heap.get? b = some o → b ≠ s.heap.objs.size + 1 ∧ (((s.heap.push (seqObj "list" #[] 0)).update s.heap.objs.size (Obj.mapSeq (· ++ vs.toArray))).push (seqObj "list" vs.toArray 0)).get? b = some o := fun b o q => by
    have hlt : b < s.heap.objs.size := Heap.lt_size q
    refine ⟨Nat.ne_of_lt (Nat.lt_succ_of_lt hlt), Heap.get?_push_of_some _ ?_⟩
    rw [Heap.get?_update_ne _ _ _ _ (Nat.ne_of_lt hlt)]
    exact Heap.get?_push_of_some _ q
  show wpAny _ _ _ _ _ { s with heap := ((s.heap.push (seqObj "list" #[] 0)).update s.heap.objs.size (Obj.mapSeq (· ++ vs.toArray))).push (seqObj "list" vs.toArray 0) }
  rw [hsz]
  refine wpAny_bind (wpAny_holding (wpAny_call_entry slot_list_sort ⟨_, hoL, rfl⟩ entry_list_sort (SrtO.list_sort_ord O hoL hz (fun h2 => hS h2 _ _ hoL keep) fun out hs hb => ⟨_, rfl, ?_⟩) (args_list_sort _)))
  exact wpAny_pure ⟨_, rfl, h out hs hb⟩
end
def rSrtT (K : PySem.W.Frag) : List V → Hp → VK → Prop := fun vs H Q => ∃ (a : Addr) (ns : List Int), vs = [V.ref a] ∧ SqT K H a (ns.map V.int) ∧ ∀ (ns' : List Int) (p : Addr), ns'.Perm ns → ns'.Pairwise (· ≤ ·) → H p = none → Q (.ref p) (upd H p (.lst (ns'.map V.int)))
section
variable {X : Cx} {e a b c o : Expr} {es : List Expr} {pos : Pos} {K : PySem.W.Frag}
theorem cr_sortedT0 : CallR X (.builtin "sorted") (rSrtT X.K) := by
  intro pins s σ H vs us Q I r h
  obtain ⟨a, ns, rfl, hs, q⟩ := h
  obtain ⟨its, rv, hl, hz⟩ := I.tuple hs
  rw [Vals.ref1 r]
  have hi := rv.ints
  refine sorted_tupl SrtO.swo_int hl (by rw [← rv.length]; exact hz) (fun h2 h₁ a' _ _ => SrtO.ints_sortable hi h2) fun out h1 h2 => ?_
  obtain ⟨k1, k2, k3⟩ := SrtO.ints_out hi h1 h2
  obtain ⟨ep, he'⟩ := PyProof.Rows.sortedAll_at s.heap its out.toArray
  have hlen : ((out.map SrtO.iv).map V.int).length ≤ sizeLine := by
    rw [List.length_map, k2.length_eq]
    rw [List.length_map] at hz
    exact hz
  exact ⟨.ref _, upd H (s.heap.objs.size + 1) (.lst ((out.map SrtO.iv).map V.int)), I.laid (t' := s.toks) (fun _ _ => PyProof.Rows.sortedAll_old) (Nat.le_succ _) ⟨hlen, out, ep, vals_of_ints k1, he'⟩, rfl, q _ _ k2 k3 (I.hok.fresh (Nat.le_succ _))⟩
theorem CallR.or {f : Value} {r r' : List V → Hp → VK → Prop} (h : CallR X f r) (h' : CallR X f r') : CallR X f (fun xs H Q => r xs H Q ∨ r' xs H Q) := by
  intro pins s σ H vs us Q I rr q
  rcases q with q | q
  · exact h pins s σ H vs us Q I rr q
  · exact h' pins s σ H vs us Q I rr q
/-- ascending whole numbers -/
def srt (ns : List Int) : List Int := ns.mergeSort (fun i j => decide (i ≤ j))
theorem srt_perm (ns : List Int) : (srt ns).Perm ns := List.mergeSort_perm _ _
theorem srt_sorted (ns : List Int) : (srt ns).Pairwise (· ≤ ·) := by
  have h := List.pairwise_mergeSort (le := fun (i j : Int) => decide (i ≤ j)) (fun a b c h1 h2 => by simp only [decide_eq_true_eq] at *; omega) (fun a b => by simp only [Bool.or_eq_true, decide_eq_true_eq]; omega) ns
  exact h.imp fun h => by simpa using h
theorem sorted_uniq {l l' : List Int} (hp : l.Perm l') (h : l.Pairwise (· ≤ ·)) (h' : l'.Pairwise (· ≤ ·)) : l = l' :=
  hp.eq_of_pairwise (fun a b _ _ h1 h2 => Int.le_antisymm h1 h2) h h'
theorem srt_eq {ns l : List Int} (hp : l.Perm ns) (h : l.Pairwise (· ≤ ·)) : l = srt ns := sorted_uniq (hp.trans (srt_perm ns).symm) h (srt_sorted ns)
def cSorted : DCl := fun rs g k => ∃ (r : R) (t : Bool) (ns : List Int), rs = [r] ∧ seqOf g r = some (t, ns.map .int) ∧ k (.d (.list ((srt ns).map .int))) g
theorem pd_sorted {p : Pos} {da : DA} (hg : Gl X "sorted") (hm : X.mg "sorted" = none) (ha : PDA X (e :: es) da) (he : starEach (e :: es) X.env = (false, eval e X.env) :: starEach es X.env := by rfl) (hpl : (backTo pos (starEach es X.env)).any (·.1) = false := by rfl) :
    PD X (.Call (.Name "sorted" p) (e :: es) [] pos) (dCall cSorted da) := by
  refine pd_callB (CallR.or cr_sortedI cr_sortedT0) ?_ hg hm (by decide +kernel) ha (he := he) (hpl := hpl)
  rintro F g tm s H B al vs rs k Q S pr ⟨r, t, ns, rfl, hs, hk⟩ q
  obtain ⟨v, rfl, hv⟩ := pair1 pr
  obtain ⟨a, xs, rfl, h1, h2⟩ := S.seq hv hs
  cases dqall_ints h2
  cases t with
  | false => exact .inl ⟨a, ns, rfl, h1, fun ns' p hp hs' hn => by
      rw [srt_eq hp hs']
      exact new_l S hn (dqall_mkints _) hk q⟩
  | true => exact .inr ⟨a, ns, rfl, h1, fun ns' p hp hs' hn => by
      rw [srt_eq hp hs']
      exact new_l S hn (dqall_mkints _) hk q⟩

/-! ### methods of lists -/
abbrev DM := R → List R → G → (R → G → Prop) → Prop
def RefM (K : PySem.W.Frag) (r : V → List V → Hp → VK → Prop) (dm : DM) : Prop := ∀ F g tm s H B al x vs r0 rs k Q, Stt K F g tm s H B al → RvOk K B al x r0 → Paired (RvOk K B al) vs rs → dm r0 rs g k →
  (∀ v H' r g' B' al', k r g' → Stt K F g' tm s H' B' al' → RvOk K B' al' v r → Q v H') → r x vs H Q
def dMeth (dm : DM) (dd : DE) (da : DA) : DE := fun g k => dd g fun r g1 => (∃ ds, seqOf g1 r = some (false, ds)) ∧ da g1 fun rs g2 => dm r rs g2 k
def dMeth0 (dm : DM) (dd : DE) : DE := fun g k => dd g fun r g1 => (∃ ds, seqOf g1 r = some (false, ds)) ∧ dm r [] g1 k
theorem pd_meth {name : Str} {apos cpos : Pos} {id : String} {r : V → List V → Hp → VK → Prop} {dm : DM} {dd : DE} {da : DA} (slot : Slot "list" name id) (hty : typeOf (.builtin id) = pure (.type "method_descriptor")) (hm : MtR X id r) (h : RefM X.K r dm) (ho : PD X o dd) (ha : PDA X (e :: es) da)
    (hbase : attributeBase o name X.env (eval o X.env) = eval o X.env := by rfl)
    (hfew : ((backTo cpos (starEach (e :: es) X.env)).all (fun x => !x.1) && (backToKw cpos (keywordEach [] X.env)).all (fun x => x.1.isSome) && decide ((e :: es).length + ([] : List Keyword).length + (if ([] : List Keyword).isEmpty then 0 else 1) < 30)) = true := by rfl)
    (hline : (apos.endLine == cpos.line) = true := by rfl) (hs : starEach (e :: es) X.env = (false, eval e X.env) :: starEach es X.env := by rfl) (hplain : (backTo cpos (starEach es X.env)).any (·.1) = false := by rfl) :
    PD X (.Call (.Attribute o name apos) (e :: es) [] cpos) (dMeth dm dd da) :=
  pe_imp (pe_bm PySem.F.plainAttrs_list slot hty hm ho ha hbase hfew hline hs hplain) fun s H Q ⟨F, g, tm, k, B, al, S, hk, q⟩ => ⟨F, g, tm, _, B, al, S, hk, fun x H1 r1 g1 B1 al1 ⟨⟨ds, hd⟩, hk1⟩ S1 => by
    obtain ⟨a, xs, rfl, h1, h2⟩ := S1.seq (S1.top rfl) hd
    exact ⟨.inl ⟨rfl, xs, h1⟩, F, g1, (V.ref a, r1) :: tm, _, B1, al1, S1, hk1, fun vs H2 rs g2 B2 al2 hk2 S2 pr =>
      h F g2 tm s H2 B2 al2 (.ref a) vs r1 rs k Q (S2.temps fun p hp => List.mem_cons_of_mem _ hp) (S2.top rfl) pr hk2 fun v H' r g' B' al' hr S' rv => q v H' r g' B' al' hr (S'.push rv)⟩⟩
theorem pd_meth0 {name : Str} {apos cpos : Pos} {id : String} {r : V → List V → Hp → VK → Prop} {dm : DM} {dd : DE} (slot : Slot "list" name id) (hty : typeOf (.builtin id) = pure (.type "method_descriptor")) (hm : MtR X id r) (h : RefM X.K r dm) (ho : PD X o dd)
    (hbase : attributeBase o name X.env (eval o X.env) = eval o X.env := by rfl) (hline : (apos.endLine == cpos.line) = true := by rfl) : PD X (.Call (.Attribute o name apos) [] [] cpos) (dMeth0 dm dd) :=
  pe_imp (pe_bm0 PySem.F.plainAttrs_list slot hty hm ho hbase hline) fun s H Q ⟨F, g, tm, k, B, al, S, hk, q⟩ => ⟨F, g, tm, _, B, al, S, hk, fun x H1 r1 g1 B1 al1 ⟨⟨ds, hd⟩, hk1⟩ S1 => by
    obtain ⟨a, xs, rfl, h1, h2⟩ := S1.seq (S1.top rfl) hd
    exact ⟨.inl ⟨rfl, xs, h1⟩, h F g1 tm s H1 B1 al1 (.ref a) [] r1 [] k Q (S1.temps fun p hp => List.mem_cons_of_mem _ hp) (S1.top rfl) .nil hk1 fun v H' r g' B' al' hr S' rv => q v H' r g' B' al' hr (S'.push rv)⟩⟩
def mAppend : DM := fun r rs g k => ∃ j ds x, r = .o j ∧ rs = [.d x] ∧ g.ce[j]? = some (.lst ds) ∧ ds.length < 100000 ∧ k (.d .none) { g with ce := g.ce.set j (.lst (ds ++ [x])) }
theorem ref_append : RefM K rAppend mAppend := by
  rintro F g tm s H B al x vs r0 rs k Q S hx pr ⟨j, ds, y, rfl, rfl, hc, hz, hk⟩ q
  obtain ⟨p, hp, rfl⟩ := hx
  obtain ⟨v, rfl, hv⟩ := pair1 pr
  obtain ⟨xs, h1, h2⟩ := S.ce j p _ hp hc
  exact ⟨p, xs, v, rfl, rfl, h1, by rw [dqall_len h2]; exact sz_lt hz, q _ _ _ _ B al hk (S.put hp hc (by simp) ⟨_, upd_same, dqall_app h2 (.cons hv .nil)⟩) Dq.non⟩
theorem pd_append {apos cpos : Pos} {dd : DE} {da : DA} (ho : PD X o dd) (ha : PDA X (e :: es) da)
    (hbase : attributeBase o "append" X.env (eval o X.env) = eval o X.env := by rfl)
    (hfew : ((backTo cpos (starEach (e :: es) X.env)).all (fun x => !x.1) && (backToKw cpos (keywordEach [] X.env)).all (fun x => x.1.isSome) && decide ((e :: es).length + ([] : List Keyword).length + (if ([] : List Keyword).isEmpty then 0 else 1) < 30)) = true := by rfl)
    (hline : (apos.endLine == cpos.line) = true := by rfl) (hs : starEach (e :: es) X.env = (false, eval e X.env) :: starEach es X.env := by rfl) (hplain : (backTo cpos (starEach es X.env)).any (·.1) = false := by rfl) :
    PD X (.Call (.Attribute o "append" apos) (e :: es) [] cpos) (dMeth mAppend dd da) := pd_meth PySem.F.slot_list_append PySem.F.type_list_append mt_append ref_append ho ha hbase hfew hline hs hplain
def mInsert : DM := fun r rs g k => ∃ j ds x i, r = .o j ∧ rs = [.d (.int i), .d x] ∧ g.ce[j]? = some (.lst ds) ∧ ds.length < 100000 ∧ 0 ≤ i ∧ i < 2 ^ 63 ∧ k (.d .none) { g with ce := g.ce.set j (.lst (ds.take i.toNat ++ [x] ++ ds.drop i.toNat)) }
theorem ref_insert : RefM K (fun x vs H Q => ∃ (l : Addr) (xs : List V) (i : Int) (y : V), x = .ref l ∧ vs = [.int i, y] ∧ H l = some (.lst xs) ∧ xs.length < sizeLine ∧ 0 ≤ i ∧ i < 2 ^ 63 ∧ Q .non (upd H l (.lst (xs.take i.toNat ++ [y] ++ xs.drop i.toNat)))) mInsert := by
  rintro F g tm s H B al x vs r0 rs k Q S hx pr ⟨j, ds, y, i, rfl, rfl, hc, hz, h0, h63, hk⟩ q
  obtain ⟨p, hp, rfl⟩ := hx
  obtain ⟨v, w, rfl, hv, hw⟩ := pair2 pr
  cases dq_int hv
  obtain ⟨xs, h1, h2⟩ := S.ce j p _ hp hc
  exact ⟨p, xs, i, w, rfl, rfl, h1, by rw [dqall_len h2]; exact sz_lt hz, h0, h63, q _ _ _ _ B al hk (S.put hp hc (by simp) ⟨_, upd_same, dqall_app (dqall_app (dqall_take _ h2) (.cons hw .nil)) (dqall_drop _ h2)⟩) Dq.non⟩
theorem pd_insert {apos cpos : Pos} {dd : DE} {da : DA} (ho : PD X o dd) (ha : PDA X (e :: es) da)
    (hbase : attributeBase o "insert" X.env (eval o X.env) = eval o X.env := by rfl)
    (hfew : ((backTo cpos (starEach (e :: es) X.env)).all (fun x => !x.1) && (backToKw cpos (keywordEach [] X.env)).all (fun x => x.1.isSome) && decide ((e :: es).length + ([] : List Keyword).length + (if ([] : List Keyword).isEmpty then 0 else 1) < 30)) = true := by rfl)
    (hline : (apos.endLine == cpos.line) = true := by rfl) (hs : starEach (e :: es) X.env = (false, eval e X.env) :: starEach es X.env := by rfl) (hplain : (backTo cpos (starEach es X.env)).any (·.1) = false := by rfl) :
    PD X (.Call (.Attribute o "insert" apos) (e :: es) [] cpos) (dMeth mInsert dd da) := pd_meth PySem.F.slot_list_insert PySem.F.type_list_insert mt_insert ref_insert ho ha hbase hfew hline hs hplain
/-- pop(i) -/
def mPopAt : DM := fun r rs g k => ∃ j ds i n x, r = .o j ∧ rs = [.d (.int i)] ∧ g.ce[j]? = some (.lst ds) ∧ -(2 ^ 63) ≤ i ∧ i < 2 ^ 63 ∧ seqIndex? i ds.length = some n ∧ ds[n]? = some x ∧ k (.d x) { g with ce := g.ce.set j (.lst (ds.eraseIdx n)) }
theorem ref_popAt : RefM K rPopAt mPopAt := by
  rintro F g tm s H B al x vs r0 rs k Q S hx pr ⟨j, ds, i, n, y, rfl, rfl, hc, h1, h2, h3, h4, hk⟩ q
  obtain ⟨p, hp, rfl⟩ := hx
  obtain ⟨v, rfl, hv⟩ := pair1 pr
  cases dq_int hv
  obtain ⟨xs, e1, e2⟩ := S.ce j p _ hp hc
  obtain ⟨z, hz, hd⟩ := dqall_get e2 h4
  exact ⟨p, xs, i, n, z, rfl, rfl, e1, h1, h2, by rw [dqall_len e2]; exact h3, hz, q _ _ _ _ B al hk (S.put hp hc (by simp) ⟨_, upd_same, dqall_erase n e2⟩) hd⟩
theorem pd_popAt {apos cpos : Pos} {dd : DE} {da : DA} (ho : PD X o dd) (ha : PDA X (e :: es) da)
    (hbase : attributeBase o "pop" X.env (eval o X.env) = eval o X.env := by rfl)
    (hfew : ((backTo cpos (starEach (e :: es) X.env)).all (fun x => !x.1) && (backToKw cpos (keywordEach [] X.env)).all (fun x => x.1.isSome) && decide ((e :: es).length + ([] : List Keyword).length + (if ([] : List Keyword).isEmpty then 0 else 1) < 30)) = true := by rfl)
    (hline : (apos.endLine == cpos.line) = true := by rfl) (hs : starEach (e :: es) X.env = (false, eval e X.env) :: starEach es X.env := by rfl) (hplain : (backTo cpos (starEach es X.env)).any (·.1) = false := by rfl) :
    PD X (.Call (.Attribute o "pop" apos) (e :: es) [] cpos) (dMeth mPopAt dd da) := pd_meth PySem.F.slot_list_pop PySem.F.type_list_pop mt_popAt ref_popAt ho ha hbase hfew hline hs hplain
/-- index of data -/
def mIndex : DM := fun r rs g k => ∃ ds r1 d n, datOf g r = some (.list ds) ∧ rs = [r1] ∧ datOf g r1 = some d ∧ SeqAt.shaped (.list ds) = true ∧ SeqAt.shaped d = true ∧ ds.findIdx? (fun z => PyData.eqv z d) = some n ∧ k (.d (.int (n : Nat))) g
theorem ref_index : RefM K (rIndexD K) mIndex := by
  rintro F g tm s H B al x vs r0 rs k Q S hx pr ⟨ds, r1, d, n, e1, rfl, e2, s1, s2, h3, hk⟩ q
  obtain ⟨v, rfl, hv⟩ := pair1 pr
  have h1 := S.dat hx e1
  have h2 := S.dat hv e2
  obtain ⟨hn, hb, hm⟩ := List.findIdx?_eq_some_iff_getElem.mp h3
  have ha : ∃ a, x = .ref a := by cases h1 with | lst _ _ => exact ⟨_, rfl⟩
  obtain ⟨a, rfl⟩ := ha
  refine ⟨a, v, d, ds, n, ds[n], rfl, rfl, h1, h2, s1, s2, List.getElem?_eq_getElem hn, hb, fun m z' hm' hz => ?_, q _ H _ g B al hk S (Dq.int _)⟩
  have hml : m < ds.length := by omega
  rw [List.getElem?_eq_getElem hml] at hz
  cases hz
  have z := hm m hm'
  simpa using z
theorem pd_index {apos cpos : Pos} {dd : DE} {da : DA} (hu : X.A.units + 65 < cLine) (ho : PD X o dd) (ha : PDA X (e :: es) da)
    (hbase : attributeBase o "index" X.env (eval o X.env) = eval o X.env := by rfl)
    (hfew : ((backTo cpos (starEach (e :: es) X.env)).all (fun x => !x.1) && (backToKw cpos (keywordEach [] X.env)).all (fun x => x.1.isSome) && decide ((e :: es).length + ([] : List Keyword).length + (if ([] : List Keyword).isEmpty then 0 else 1) < 30)) = true := by rfl)
    (hline : (apos.endLine == cpos.line) = true := by rfl) (hs : starEach (e :: es) X.env = (false, eval e X.env) :: starEach es X.env := by rfl) (hplain : (backTo cpos (starEach es X.env)).any (·.1) = false := by rfl) :
    PD X (.Call (.Attribute o "index" apos) (e :: es) [] cpos) (dMeth mIndex dd da) := pd_meth PySem.F.slot_list_index PySem.F.type_list_index (mt_indexD hu) ref_index ho ha hbase hfew hline hs hplain

/-! ### x in xs: whole numbers -/
theorem inV_ints (i : Int) : ∀ ns : List Int, inV (.int i) (ns.map V.int) = decide (i ∈ ns)
  | [] => by simp [inV]
  | n :: ns => by
    have ih := inV_ints i ns
    unfold inV at ih ⊢
    rw [List.map_cons, List.any_cons, ih]
    by_cases e : n = i
    · subst e; simp [eqV]
    · have e' : ¬ i = n := fun z => e z.symm
      have z : eqV (V.int n) (V.int i) = false := by
        show (n == i) = false
        simpa using e
      rw [z, Bool.false_or]
      simp [e']
theorem flat_ints (ns : List Int) : (ns.map V.int).all flatV = true := by
  rw [List.all_eq_true]
  intro x hx
  obtain ⟨n, _, rfl⟩ := List.mem_map.mp hx
  rfl
def oIn : D2 := fun r1 r2 g k => ∃ (i : Int) (t : Bool) (ns : List Int), r1 = .d (.int i) ∧ seqOf g r2 = some (t, ns.map .int) ∧ k (.d (.bool (decide (i ∈ ns)))) g
def oNotIn : D2 := fun r1 r2 g k => ∃ (i : Int) (t : Bool) (ns : List Int), r1 = .d (.int i) ∧ seqOf g r2 = some (t, ns.map .int) ∧ k (.d (.bool (!decide (i ∈ ns)))) g
theorem ref_in : RefOp K (rIn K false) oIn := by
  rintro F g tm s H B al x y r1 r2 k Q S hx hy ⟨i, t, ns, rfl, h2, hk⟩ q
  cases dq_int hx
  obtain ⟨a, xs, rfl, h1, h3⟩ := S.seq hy h2
  cases dqall_ints h3
  refine ⟨a, _, rfl, h1.or, rfl, flat_ints ns, ?_⟩
  rw [if_neg Bool.false_ne_true, inV_ints]
  exact q _ H _ g B al hk S (Dq.bl _)
theorem ref_notIn : RefOp K (rIn K true) oNotIn := by
  rintro F g tm s H B al x y r1 r2 k Q S hx hy ⟨i, t, ns, rfl, h2, hk⟩ q
  cases dq_int hx
  obtain ⟨a, xs, rfl, h1, h3⟩ := S.seq hy h2
  cases dqall_ints h3
  refine ⟨a, _, rfl, h1.or, rfl, flat_ints ns, ?_⟩
  rw [if_pos rfl, inV_ints]
  exact q _ H _ g B al hk S (Dq.bl _)
theorem pd_in {da db : DE} (ha : PD X a da) (hb : PD X b db) (hm : behindInMarks .In b = false := by rfl) : PD X (.Compare a [.In] [b] pos) (dOp oIn da db) := pd_cmp op_in_seq hm ref_in ha hb
theorem pd_notIn {da db : DE} (ha : PD X a da) (hb : PD X b db) (hm : behindInMarks .NotIn b = false := by rfl) : PD X (.Compare a [.NotIn] [b] pos) (dOp oNotIn da db) := pd_cmp op_notIn_seq hm ref_notIn ha hb
theorem pdt_in {da db : DE} (ha : PD X a da) (hb : PD X b db) (hm : behindInMarks .In b = false := by rfl) : PDT X (.Compare a [.In] [b] pos) (dTst (dOp oIn da db)) := pdt_cmp op_in_seq hm ref_in ha hb
theorem pdt_notIn {da db : DE} (ha : PD X a da) (hb : PD X b db) (hm : behindInMarks .NotIn b = false := by rfl) : PDT X (.Compare a [.NotIn] [b] pos) (dTst (dOp oNotIn da db)) := pdt_cmp op_notIn_seq hm ref_notIn ha hb

/-! ### all, any, sum -/
def cAll : DCl := fun rs g k => ∃ (r : R) (bs : List Bool), rs = [r] ∧ seqOf g r = some (false, bs.map .bool) ∧ k (.d (.bool (bs.all id))) g
def cAny : DCl := fun rs g k => ∃ (r : R) (bs : List Bool), rs = [r] ∧ seqOf g r = some (false, bs.map .bool) ∧ k (.d (.bool (bs.any id))) g
def cSum : DCl := fun rs g k => ∃ (r : R) (ns : List Int), rs = [r] ∧ seqOf g r = some (false, ns.map .int) ∧ k (.d (.int ns.sum)) g
theorem ref_all : RefC K (rAll K) cAll := by
  rintro F g tm s H B al vs rs k Q S pr ⟨r, bs, rfl, hs, hk⟩ q
  obtain ⟨v, rfl, hv⟩ := pair1 pr
  obtain ⟨a, xs, rfl, h1, h2⟩ := S.seq hv hs
  cases dqall_bools h2
  exact ⟨a, bs, rfl, h1, q _ H _ g B al hk S (Dq.bl _)⟩
theorem ref_any : RefC K (rAny K) cAny := by
  rintro F g tm s H B al vs rs k Q S pr ⟨r, bs, rfl, hs, hk⟩ q
  obtain ⟨v, rfl, hv⟩ := pair1 pr
  obtain ⟨a, xs, rfl, h1, h2⟩ := S.seq hv hs
  cases dqall_bools h2
  exact ⟨a, bs, rfl, h1, q _ H _ g B al hk S (Dq.bl _)⟩
theorem ref_sum : RefC K (rSum K) cSum := by
  rintro F g tm s H B al vs rs k Q S pr ⟨r, ns, rfl, hs, hk⟩ q
  obtain ⟨v, rfl, hv⟩ := pair1 pr
  obtain ⟨a, xs, rfl, h1, h2⟩ := S.seq hv hs
  cases dqall_ints h2
  exact ⟨a, ns, rfl, h1, q _ H _ g B al hk S (Dq.int _)⟩
end
end DL

set_option Elab.async false
set_option linter.all false
set_option maxRecDepth 100000
set_option maxHeartbeats 4000000
set_option autoImplicit false
namespace DL
open PySem PySem.Spec PyProof.Rows L2
/-! ### list comprehensions -/
def wipeG (sl : List (Option R)) : List Nat → List (Option R)
  | [] => sl
  | v :: vs => (wipeG sl vs).set v none
theorem wipeG_length (sl : List (Option R)) : ∀ vs : List Nat, (wipeG sl vs).length = sl.length
  | [] => rfl
  | v :: vs => by unfold wipeG; rw [List.length_set, wipeG_length sl vs]
theorem wipeG_some {sl : List (Option R)} {i : Nat} {x : R} : ∀ {vs : List Nat}, (wipeG sl vs)[i]? = some (some x) → sl[i]? = some (some x) ∧ i ∉ vs
  | [], h => ⟨h, by simp⟩
  | v :: vs, h => by
    unfold wipeG at h
    by_cases hi : v = i
    · subst hi
      by_cases hv : v < (wipeG sl vs).length
      · rw [List.getElem?_set_self hv] at h; cases h
      · rw [List.getElem?_eq_none (by simpa using hv)] at h; cases h
    · rw [List.getElem?_set_ne hi] at h
      obtain ⟨h1, h2⟩ := wipeG_some h
      exact ⟨h1, by simp only [List.mem_cons, not_or]; exact ⟨fun e => hi e.symm, h2⟩⟩
def dLc (di : DI) (dg : DG) (dt : DT) (de : DE) (ws : List Nat) : DE := fun g k => di g fun ds g1 => ∃ I : Nat → List PyData → List Ct → Prop, I 0 [] g1.ce ∧ ∀ i acc ce, I i acc ce →
  (i = ds.length → k (.d (.list acc)) ⟨g1.sl, ce⟩) ∧ ∀ x, ds[i]? = some x → acc.length < 100000 ∧ dg (.d x) ⟨wipeG g1.sl ws, ce⟩ fun g2 => dt g2 fun b g3 =>
    if b = true then de g3 fun y g4 => ∃ d, y = .d d ∧ I (i + 1) (acc ++ [d]) g4.ce else I (i + 1) acc g3.ce
/-- the same, the list an own cell -/
def dLcO (di : DI) (dg : DG) (dt : DT) (de : DE) (ws : List Nat) : DE := fun g k => di g fun ds g1 => ∃ I : Nat → List PyData → List Ct → Prop, I 0 [] g1.ce ∧ ∀ i acc ce, I i acc ce →
  (i = ds.length → k (.o ce.length) ⟨g1.sl, ce ++ [.lst acc]⟩) ∧ ∀ x, ds[i]? = some x → acc.length < 100000 ∧ dg (.d x) ⟨wipeG g1.sl ws, ce⟩ fun g2 => dt g2 fun b g3 =>
    if b = true then de g3 fun y g4 => ∃ d, y = .d d ∧ I (i + 1) (acc ++ [d]) g4.ce else I (i + 1) acc g3.ce
def dYes : DT := fun g k => k true g
abbrev PDTs (X : Cx) (ifs : List Expr) (dt : DT) : Prop := PTs X ifs (liftT X.K dt)
section
variable {X : Cx} {tg iter elt e c : Expr} {ifs : List Expr} {pos : Pos} {K : PySem.W.Frag}
theorem pts_imp {t t' : TT} (h : PTs X ifs t) (i : ∀ s H Q, t' s H Q → t s H Q) : PTs X ifs t' := ⟨fun pins s σ H Q I q => h.run pins s σ H Q I (i σ H Q q)⟩
theorem pdts_nil : PDTs X [] dYes := pts_imp pts_nil fun s H Q ⟨F, g, tm, k, B, al, S, hk, q⟩ => q true H g B al hk S
theorem pdts_one {dt : DT} (h : PDT X c dt) : PDTs X [c] dt := pts_one h
/-- the frame in which the list at D grows -/
def fmLc (F : Fm) (B1 : Hp) (D : Addr) (xs : List V) : Fm := ⟨B1, upd F.O D (.lst xs), F.P⟩
theorem slotTemps {F : Fm} {g : G} {tm : List (V × R)} {s : L2.St} {H B : Hp} {al : List Addr} (S : Stt K F g tm s H B al) : ∃ ts : List (V × R), (∀ p ∈ ts, RvOk K B al p.1 p.2) ∧ ∀ (i : Nat) (r : R), g.sl[i]? = some (some r) → ∃ v, s[i]? = some (some v) ∧ (v, r) ∈ ts := by
  have gen : ∀ n, ∃ ts : List (V × R), (∀ p ∈ ts, RvOk K B al p.1 p.2) ∧ ∀ (i : Nat) (r : R), i < n → g.sl[i]? = some (some r) → ∃ v, s[i]? = some (some v) ∧ (v, r) ∈ ts := by
    intro n
    induction n with
    | zero => exact ⟨[], (fun p hp => nomatch hp), fun i r h => absurd h (Nat.not_lt_zero _)⟩
    | succ n ih =>
      obtain ⟨ts, h1, h2⟩ := ih
      by_cases hn : ∃ r, g.sl[n]? = some (some r)
      · obtain ⟨r, hr⟩ := hn
        obtain ⟨v, hv, hok⟩ := S.sl n r hr
        refine ⟨(v, r) :: ts, fun p hp => ?_, fun i r' hi hr' => ?_⟩
        · rcases List.mem_cons.mp hp with z | z
          · rw [z]; exact hok
          · exact h1 p z
        · by_cases e : i = n
          · subst e
            rw [hr] at hr'
            cases hr'
            exact ⟨v, hv, List.mem_cons_self⟩
          · obtain ⟨v', a, b⟩ := h2 i r' (by omega) hr'
            exact ⟨v', a, List.mem_cons_of_mem _ b⟩
      · refine ⟨ts, h1, fun i r' hi hr' => ?_⟩
        by_cases e : i = n
        · subst e; exact absurd ⟨r', hr'⟩ hn
        · exact h2 i r' (by omega) hr'
  obtain ⟨ts, h1, h2⟩ := gen g.sl.length
  refine ⟨ts, h1, fun i r hr => h2 i r ?_ hr⟩
  exact (List.getElem?_eq_some_iff.mp hr).1
theorem ref_lc {ws : List Nat} {di : DI} {dg : DG} {dt : DT} {de : DE} {own : Bool} : ∀ s H Q, lift K (if own then dLcO di dg dt de ws else dLc di dg dt de ws) s H Q → tLc (liftI K di) (liftG K ws dg) (liftT K dt) (lift K de) ws s H Q := by
  rintro s H Q ⟨F, g, tm, k, B, al, S, hk, q⟩
  have hk' : di g fun ds g1 => ∃ I : Nat → List PyData → List Ct → Prop, I 0 [] g1.ce ∧ ∀ i acc ce, I i acc ce →
    (i = ds.length → k (if own then .o ce.length else .d (.list acc)) (if own then ⟨g1.sl, ce ++ [.lst acc]⟩ else ⟨g1.sl, ce⟩)) ∧ ∀ x, ds[i]? = some x → acc.length < 100000 ∧ dg (.d x) ⟨wipeG g1.sl ws, ce⟩ fun g2 => dt g2 fun b g3 =>
      if b = true then de g3 fun y g4 => ∃ d, y = .d d ∧ I (i + 1) (acc ++ [d]) g4.ce else I (i + 1) acc g3.ce := by
    cases own with
    | true => exact hk
    | false => exact hk
  refine ⟨F, g, tm, _, B, al, S, hk', fun J H1 ds g1 B1 al1 ⟨I, i0, turn⟩ S1 wk => ?_⟩
  intro D hD
  have nD : D ∉ al1 := S1.new_out hD
  have bD : B1 D = none := S1.bh.free hD
  obtain ⟨ts, ts1, ts2⟩ := slotTemps S1
  -- the state within
  have start : Stt K (fmLc F B1 D []) ⟨wipeG g1.sl ws, g1.ce⟩ (ts ++ tm) (wipe s ws) (upd H1 D (.lst [])) B1 al1 := by
    have eH : Same H1 (upd H1 D (.lst [])) := same_new hD
    refine { fb := Same.refl _, bh := S1.bh.trans eH, fo := ?_, pre := S1.pre, len := S1.len, nd := S1.nd, lv := ?_, nb := S1.nb, ce := ?_, sl := ?_, tm := ?_, sln := ?_ }
    · intro a o e
      by_cases ha : a = D
      · subst ha
        have e' : upd F.O a (.lst []) a = some o := e
        rw [upd_same] at e' ⊢
        exact ⟨e', bD, nD⟩
      · have e' : upd F.O D (.lst []) a = some o := e
        rw [upd_ne ha] at e'
        obtain ⟨h1, h2, h3⟩ := S1.fo a o e'
        exact ⟨eH _ _ h1, h2, h3⟩
    · intro a ha
      obtain ⟨o, e⟩ := S1.lv a ha
      exact ⟨o, eH _ _ e⟩
    · intro j a ct h1 h2
      exact ct_mono0 (Same.refl _) (fun o e => eH _ _ e) (S1.ce j a ct h1 h2)
    · intro i r e
      obtain ⟨e1, e2⟩ := wipeG_some e
      obtain ⟨v, h1, h2⟩ := S1.sl i r e1
      exact ⟨v, by rw [wipe_out e2]; exact h1, h2⟩
    · intro p hp
      rcases List.mem_append.mp hp with z | z
      · exact ts1 p z
      · exact S1.tm p z
    · rw [wipeG_length, wipe_length]; exact S1.sln
  have dqT : ∀ {F' : Fm} {g' : G} {xs : List V} {acc : List PyData} {s' : L2.St} {H' B' : Hp} {al' : List Addr}, xs.length = acc.length → Stt K F' g' (xs.zip (acc.map R.d) ++ (ts ++ tm)) s' H' B' al' → DqAll B' xs acc := fun {F' g' xs acc s' H' B' al'} hl Z =>
    dqall_paired (K := K) (al := al') (paired_of (by rw [List.length_map]; exact hl) fun p hp => Z.tm p (List.mem_append_left _ hp))
  refine ⟨fun i m H => m = ds.length - i ∧ i ≤ ds.length ∧ ∃ acc xs ce B al, I i acc ce ∧ xs.length = acc.length ∧ Stt K (fmLc F B1 D xs) ⟨wipeG g1.sl ws, ce⟩ (xs.zip (acc.map R.d) ++ (ts ++ tm)) (wipe s ws) H B al, ⟨ds.length, rfl, Nat.zero_le _, [], [], g1.ce, B1, al1, i0, rfl, start⟩, ?_⟩
  rintro i m H2 ⟨rfl, hi, acc, xs, ce, B2, al2, hI, hx, S2⟩
  obtain ⟨t1, t2⟩ := turn i acc ce hI
  have dO : H2 D = some (.lst xs) ∧ B2 D = none ∧ D ∉ al2 := S2.fo D _ upd_same
  obtain ⟨w1, w2⟩ := wk _ _ _ (wipe s ws) H2 B2 al2 i S2 S2.fb
  by_cases hlt : i < ds.length
  · have hget : ds[i]? = some ds[i] := List.getElem?_eq_getElem hlt
    obtain ⟨go, yl⟩ := w1 _ hget
    obtain ⟨hz, hk2⟩ := t2 _ hget
    refine .inr ⟨go, fun H => ∃ acc xs ce B al, I (i + 1) acc ce ∧ xs.length = acc.length ∧ Stt K (fmLc F B1 D xs) ⟨wipeG g1.sl ws, ce⟩ (xs.zip (acc.map R.d) ++ (ts ++ tm)) (wipe s ws) H B al, fun H' ⟨acc', xs', ce', B', al', a1, a2, a3⟩ => ⟨ds.length - (i + 1), by omega, rfl, hlt, acc', xs', ce', B', al', a1, a2, a3⟩, fun x H3 hy => ?_⟩
    obtain ⟨B3, S3, e3, hd⟩ := yl x H3 hy
    -- the slots outside are as they were
    have back : ∀ {F' : Fm} {tm' : List (V × R)} {sl' : List (Option R)} {ce' : List Ct} {s' : L2.St} {H' B' : Hp} {al' : List Addr}, (∀ p ∈ ts, p ∈ tm') → Stt K F' ⟨sl', ce'⟩ tm' s' H' B' al' → Stt K F' ⟨wipeG g1.sl ws, ce'⟩ tm' (wipe s ws) H' B' al' := fun {F' tm' sl' ce' s' H' B' al'} hts Z =>
      { Z with
        sl := fun i r e => by
          obtain ⟨e1, e2⟩ := wipeG_some e
          obtain ⟨v, h1, h2⟩ := ts2 i r e1
          exact ⟨v, by rw [wipe_out e2]; exact h1, Z.tm _ (hts _ h2)⟩
        sln := by rw [wipeG_length, wipe_length]; exact S1.sln }
    refine ⟨_, _, _, .d _, _, B3, al2, S3, hd, hk2, fun s4 H4 g4 B4 al4 hk4 S4 wz => ⟨?_, ?_⟩⟩
    · rw [wz]
      refine List.ext_getElem? fun j => ?_
      by_cases hj : j ∈ ws
      · have gen : ∀ (us : List Nat) (q : L2.St), j ∈ us → (wipe q us)[j]? = if j < q.length then some none else none := by
          intro us
          induction us with
          | nil => intro q h; cases h
          | cons u us ih =>
            intro q h
            unfold wipe
            by_cases e : u = j
            · subst e
              by_cases hl : u < q.length
              · rw [List.getElem?_set_self (by rw [wipe_length]; exact hl), if_pos hl]
              · rw [List.getElem?_eq_none (by rw [List.length_set, wipe_length]; omega), if_neg hl]
            · rw [List.getElem?_set_ne e]
              refine ih q ?_
              rcases List.mem_cons.mp h with z | z
              · exact absurd z.symm e
              · exact z
        rw [gen ws _ hj, gen ws _ hj, wipe_length]
      · rw [wipe_out hj]
    · refine ⟨_, g4, _, _, B4, al4, S4, hk4, fun b H5 g5 B5 al5 hk5 S5 => ?_⟩
      cases b with
      | false =>
        have hk5 : I (i + 1) acc g5.ce := hk5
        exact iteF ⟨acc, xs, g5.ce, B5, al5, hk5, hx, back (fun p hp => List.mem_append_right _ (List.mem_append_left _ hp)) S5⟩
      | true =>
        refine iteT ⟨_, g5, _, _, B5, al5, S5, hk5, fun y H6 r6 g6 B6 al6 hk6 S6 => ?_⟩
        obtain ⟨d, er, hk6⟩ := hk6
        subst er
        have dO6 : H6 D = some (.lst xs) ∧ B6 D = none ∧ D ∉ al6 := S6.fo D _ upd_same
        have hy6 : Dq B6 y d := S6.top rfl
        refine ⟨xs, dO6.1, by rw [hx]; exact sz_lt hz, acc ++ [d], xs ++ [y], g6.ce, B6, al6, hk6, by rw [List.length_append, List.length_append, hx]; rfl, ?_⟩
        have Z := back (fun p hp => List.mem_cons_of_mem _ (List.mem_append_right _ (List.mem_append_left _ hp))) S6
        refine { fb := Z.fb, bh := same_mut Z.bh dO6.2.1, fo := ?_, pre := Z.pre, len := Z.len, nd := Z.nd, lv := ?_, nb := Z.nb, ce := ?_, sl := Z.sl, tm := ?_, sln := Z.sln }
        · intro a o e
          by_cases ha : a = D
          · subst ha
            have e' : upd F.O a (.lst (xs ++ [y])) a = some o := e
            rw [upd_same] at e' ⊢
            exact ⟨e', dO6.2.1, dO6.2.2⟩
          · have e' : upd F.O D (.lst (xs ++ [y])) a = some o := e
            rw [upd_ne ha] at e' ⊢
            exact Z.fo a o (show upd F.O D (.lst xs) a = some o by rw [upd_ne ha]; exact e')
        · intro a ha
          have ne : a ≠ D := fun z => dO6.2.2 (z ▸ ha)
          rw [upd_ne ne]
          exact Z.lv a ha
        · intro j a ct h1 h2
          have ne : a ≠ D := fun z => dO6.2.2 (z ▸ List.mem_of_getElem? h1)
          exact ct_mono0 (Same.refl _) (fun o e => by rw [upd_ne ne]; exact e) (Z.ce j a ct h1 h2)
        · intro p hp
          rcases List.mem_append.mp hp with z | z
          · rw [List.map_append, List.zip_append (by rw [List.length_map]; exact hx)] at z
            rcases List.mem_append.mp z with z | z
            · exact Z.tm p (List.mem_cons_of_mem _ (List.mem_append_left _ z))
            · have e : p = (y, R.d d) := List.mem_singleton.mp z
              rw [e]
              exact hy6
          · exact Z.tm p (List.mem_cons_of_mem _ (List.mem_append_right _ z))
  · have e : i = ds.length := by omega
    refine .inl ⟨w2 e, ?_⟩
    have hd := dqT hx S2
    have hk3 := t1 e
    have tsl : ∀ {B' : Hp} {al' : List Addr}, (∀ p ∈ ts ++ tm, RvOk K B' al' p.1 p.2) → ∀ (i : Nat) (r : R), g1.sl[i]? = some (some r) → ∃ v, s[i]? = some (some v) ∧ RvOk K B' al' v r := fun {B' al'} h i r er => by
      obtain ⟨v, h1, h2⟩ := ts2 i r er
      exact ⟨v, h1, h _ (List.mem_append_left _ h2)⟩
    have tmo : ∀ p ∈ ts ++ tm, RvOk K B2 al2 p.1 p.2 := fun p hp => S2.tm p (List.mem_append_right _ hp)
    have foo : ∀ a o, F.O a = some o → H2 a = some o ∧ B2 a = none ∧ a ∉ al2 ∧ a ≠ D := fun a o ha => by
      have ne : a ≠ D := fun z => by
        subst z
        have := (S1.fo a o ha).1
        rw [hD] at this
        cases this
      obtain ⟨h1, h2, h3⟩ := S2.fo a o (show upd F.O D (.lst xs) a = some o by rw [upd_ne ne]; exact ha)
      exact ⟨h1, h2, h3, ne⟩
    have eB : Same B2 (upd B2 D (.lst xs)) := same_new dO.2.1
    cases own with
    | false =>
      refine q _ _ _ _ (upd B2 D (.lst xs)) al2 hk3 ?_
      refine { fb := (S1.fb.trans S2.fb).trans eB, bh := ?_, fo := ?_, pre := S2.pre, len := S2.len, nd := S2.nd, lv := S2.lv, nb := ?_, ce := ?_, sl := ?_, tm := ?_, sln := S1.sln }
      · intro a o ea
        by_cases ha : a = D
        · subst ha; rw [upd_same] at ea; cases ea; exact dO.1
        · rw [upd_ne ha] at ea; exact S2.bh _ _ ea
      · intro a o ha
        obtain ⟨h1, h2, h3, h4⟩ := foo a o ha
        exact ⟨h1, by rw [upd_ne h4]; exact h2, h3⟩
      · intro j a ct h1 h2 h3
        have ne : a ≠ D := fun z => dO.2.2 (z ▸ List.mem_of_getElem? h1)
        rw [upd_ne ne]
        exact S2.nb j a ct h1 h2 h3
      · intro j a ct h1 h2
        exact ct_mono0 eB (fun o e => e) (S2.ce j a ct h1 h2)
      · exact tsl fun p hp => rv_mono0 eB (tmo p hp)
      · intro p hp
        rcases List.mem_cons.mp hp with z | z
        · rw [z]
          exact Dq.lst upd_same (dqall_mono eB hd)
        · exact rv_mono0 eB (tmo p (List.mem_append_right _ z))
    | true =>
      have S3 : Stt K F ⟨g1.sl, ce⟩ tm s H2 B2 al2 := { fb := S1.fb.trans S2.fb, bh := S2.bh, fo := (fun a o ha => let ⟨h1, h2, h3, _⟩ := foo a o ha; ⟨h1, h2, h3⟩), pre := S2.pre, len := S2.len, nd := S2.nd, lv := S2.lv, nb := S2.nb, ce := S2.ce, sl := tsl tmo, tm := (fun p hp => tmo p (List.mem_append_right _ hp)), sln := S1.sln }
      obtain ⟨t, ht⟩ := S3.pre
      refine q _ _ _ _ B2 (al2 ++ [D]) hk3 ?_
      refine { fb := S3.fb, bh := S3.bh, fo := ?_, pre := ⟨t ++ [D], by rw [ht, List.append_assoc]⟩, len := by show (al2 ++ [D]).length = (ce ++ [Ct.lst acc]).length; rw [List.length_append, List.length_append, S3.len]; rfl, nd := ?_, lv := ?_, nb := ?_, ce := ?_, sl := ?_, tm := ?_, sln := S1.sln }
      · intro a o ha
        obtain ⟨h1, h2, h3, h4⟩ := foo a o ha
        refine ⟨h1, h2, fun z => ?_⟩
        rcases List.mem_append.mp z with z | z
        · exact h3 z
        · exact h4 (List.mem_singleton.mp z)
      · refine List.nodup_append.mpr ⟨S3.nd, by simp, fun a ha b hb => ?_⟩
        rw [List.mem_singleton.mp hb]
        exact fun z => dO.2.2 (z ▸ ha)
      · intro a ha
        rcases List.mem_append.mp ha with z | z
        · exact S3.lv a z
        · rw [List.mem_singleton.mp z]; exact ⟨_, dO.1⟩
      · intro j a ct h1 h2 h3
        have h2 : (ce ++ [Ct.lst acc])[j]? = some ct := h2
        have hln : al2.length = ce.length := S3.len
        by_cases hj : j < al2.length
        · rw [List.getElem?_append_left hj] at h1
          rw [List.getElem?_append_left (by omega)] at h2
          exact S3.nb j a ct h1 h2 h3
        · rw [List.getElem?_append_right (by omega)] at h1
          rw [List.mem_singleton.mp (List.mem_of_getElem? h1)]
          exact dO.2.1
      · intro j a ct h1 h2
        have h2 : (ce ++ [Ct.lst acc])[j]? = some ct := h2
        have hln : al2.length = ce.length := S3.len
        by_cases hj : j < al2.length
        · rw [List.getElem?_append_left hj] at h1
          rw [List.getElem?_append_left (by omega)] at h2
          exact ct_mono (Same.refl _) (fun o e => e) (S3.ce j a ct h1 h2)
        · rw [List.getElem?_append_right (by omega)] at h1
          rw [List.getElem?_append_right (by omega)] at h2
          have e1 : a = D := List.mem_singleton.mp (List.mem_of_getElem? h1)
          have e2 : ct = .lst acc := List.mem_singleton.mp (List.mem_of_getElem? h2)
          subst e1 e2
          exact ⟨xs, dO.1, hd⟩
      · intro i r er
        obtain ⟨v, h1, h2⟩ := S3.sl i r er
        exact ⟨v, h1, rv_mono (Same.refl _) h2⟩
      · intro p hp
        rcases List.mem_cons.mp hp with z | z
        · rw [z]
          refine ⟨D, ?_, rfl⟩
          show (al2 ++ [D])[ce.length]? = some D
          have hln : al2.length = ce.length := S3.len
          rw [← hln, List.getElem?_append_right (Nat.le_refl _), Nat.sub_self]
          rfl
        · exact rv_mono (Same.refl _) (S3.tm p z)
end
/-! [elt for tg in iter if ..] -/
section
variable {X : Cx} {tg iter elt : Expr} {ifs : List Expr} {pos : Pos} {scope : Scope} {own : List (Str × Nat)} {di : DI} {dg : DG} {dt : DT} {de : DE}
theorem pd_lc (hc : X.calm = true) (hN : X.N.Nodup) (hi : PDI X tg iter di) (ok : BlkOk X.N X.env.scope scope own)
    (hg : ∀ (s : Shared) (H : Hp) (C : Addr) (cl : List (Str × Addr)) (fp : List Addr), PDG (X.blk s H scope (compEnvC scope cl C X.env) fp) (own.map (·.2)) tg dg)
    (ht : ∀ (s : Shared) (H : Hp) (C : Addr) (cl : List (Str × Addr)) (fp : List Addr), PDTs (X.blk s H scope (compEnvC scope cl C X.env) fp) ifs dt)
    (he : ∀ (s : Shared) (H : Hp) (C : Addr) (cl : List (Str × Addr)) (fp : List Addr), PD (X.blk s H scope (compEnvC scope cl C X.env) fp) elt de) (hs : ∀ x, foldedSetIterable iter X.env x = pure x := by intro _; rfl) :
    PD X (.ListComp elt [⟨tg, iter, ifs, 0⟩] scope pos) (dLc di dg dt de (own.map (·.2))) := pe_imp (pe_lc hc hN hi ok hg ht he hs) fun s H Q h => ref_lc (own := false) s H Q h
theorem pd_lcO (hc : X.calm = true) (hN : X.N.Nodup) (hi : PDI X tg iter di) (ok : BlkOk X.N X.env.scope scope own)
    (hg : ∀ (s : Shared) (H : Hp) (C : Addr) (cl : List (Str × Addr)) (fp : List Addr), PDG (X.blk s H scope (compEnvC scope cl C X.env) fp) (own.map (·.2)) tg dg)
    (ht : ∀ (s : Shared) (H : Hp) (C : Addr) (cl : List (Str × Addr)) (fp : List Addr), PDTs (X.blk s H scope (compEnvC scope cl C X.env) fp) ifs dt)
    (he : ∀ (s : Shared) (H : Hp) (C : Addr) (cl : List (Str × Addr)) (fp : List Addr), PD (X.blk s H scope (compEnvC scope cl C X.env) fp) elt de) (hs : ∀ x, foldedSetIterable iter X.env x = pure x := by intro _; rfl) :
    PD X (.ListComp elt [⟨tg, iter, ifs, 0⟩] scope pos) (dLcO di dg dt de (own.map (·.2))) := pe_imp (pe_lc hc hN hi ok hg ht he hs) fun s H Q h => ref_lc (own := true) s H Q h
theorem pds_setLc {i : Nat} {y : Str} {py spos : Pos} (hc : X.calm = true) (hN : X.N.Nodup) (hy : X.N[i]? = some y) (hyl : X.env.scope.names.lookup y = some .local)
    (hsw : swapsWith (.ListComp elt [⟨tg, iter, ifs, 0⟩] scope pos) (some (.Name y py)) spos.line X.env = pure true) (hi : PDI X tg iter di) (ok : BlkOk X.N X.env.scope scope own)
    (hg : ∀ (s : Shared) (H : Hp) (C : Addr) (cl : List (Str × Addr)) (fp : List Addr), PDG (X.blk s H scope (compEnvC scope cl C X.env) fp) (own.map (·.2)) tg dg)
    (ht : ∀ (s : Shared) (H : Hp) (C : Addr) (cl : List (Str × Addr)) (fp : List Addr), PDTs (X.blk s H scope (compEnvC scope cl C X.env) fp) ifs dt)
    (he : ∀ (s : Shared) (H : Hp) (C : Addr) (cl : List (Str × Addr)) (fp : List Addr), PD (X.blk s H scope (compEnvC scope cl C X.env) fp) elt de) (hs : ∀ x, foldedSetIterable iter X.env x = pure x := by intro _; rfl) :
    PDS X (.Assign [.Name y py] (.ListComp elt [⟨tg, iter, ifs, 0⟩] scope pos) spos) (sAsg (dLc di dg dt de (own.map (·.2))) (gN i)) :=
  ps_imp (ps_setLc hc hN hy hyl hsw hi ok hg ht he hs) fun D s H h => ref_lc (own := false) s H _ (ref_asgN D s H h)
end
end DL

set_option Elab.async false
set_option linter.all false
set_option maxRecDepth 100000
set_option maxHeartbeats 4000000
set_option autoImplicit false
namespace DL
open PySem PySem.Spec PyProof.Rows L2
/-! ### what a def hands back: data, or a new list -/
inductive Res where
  | dat (x : PyData)
  | new (ds : List PyData)
def ResOk (B : Hp) (al : List Addr) (ce : List Ct) (n : Nat) (v : V) : Res → Prop
  | .dat x => Dq B v x
  | .new ds => ∃ j p, n ≤ j ∧ al[j]? = some p ∧ v = .ref p ∧ ce[j]? = some (.lst ds)
def noO : R → Bool
  | .o _ => false
  | _ => true
def retOk (n : Nat) (g : G) (k : Res → Prop) : R → Prop
  | .d x => k (.dat x)
  | .o j => n ≤ j ∧ ∃ ds, g.ce[j]? = some (.lst ds) ∧ k (.new ds)
  | .s _ => False
section
variable {K : PySem.W.Frag} {F : Fm} {g : G} {tm : List (V × R)} {s : L2.St} {H B : Hp} {al : List Addr}
theorem Stt.bare (S : Stt K F g tm s H B al) : Stt K F ⟨[], g.ce⟩ [] [] H B al :=
  { S with sl := (fun i r e => by simp at e), tm := (fun p hp => nomatch hp), sln := rfl }
/-- a list that nobody holds becomes shared, becomes an own cell -/
theorem Stt.adopt (S : Stt K F g tm s H B al) {p : Addr} {xs : List V} (hp : H p = some (.lst xs)) (hb : B p = none) (ha : p ∉ al) (ho : F.O p = none) : Stt K F g tm s H (upd B p (.lst xs)) al := by
  have eB : Same B (upd B p (.lst xs)) := same_new hb
  refine { fb := S.fb.trans eB, bh := ?_, fo := ?_, pre := S.pre, len := S.len, nd := S.nd, lv := S.lv, nb := ?_, ce := ?_, sl := ?_, tm := ?_, sln := S.sln }
  · intro a o e
    by_cases h : a = p
    · subst h; rw [upd_same] at e; cases e; exact hp
    · rw [upd_ne h] at e; exact S.bh _ _ e
  · intro a o e
    obtain ⟨h1, h2, h3⟩ := S.fo a o e
    have ne : a ≠ p := fun z => by subst z; rw [ho] at e; cases e
    exact ⟨h1, by rw [upd_ne ne]; exact h2, h3⟩
  · intro j a ct h1 h2 h3
    have ne : a ≠ p := fun z => ha (z ▸ List.mem_of_getElem? h1)
    rw [upd_ne ne]
    exact S.nb j a ct h1 h2 h3
  · intro j a ct h1 h2
    exact ct_mono0 eB (fun o e => e) (S.ce j a ct h1 h2)
  · intro i r e
    obtain ⟨v, h1, h2⟩ := S.sl i r e
    exact ⟨v, h1, rv_mono0 eB h2⟩
  · intro q hq
    exact rv_mono0 eB (S.tm q hq)
theorem Stt.adoptO (S : Stt K F g tm s H B al) {p : Addr} {xs : List V} {ds : List PyData} (hp : H p = some (.lst xs)) (hb : B p = none) (ha : p ∉ al) (ho : F.O p = none) (hd : DqAll B xs ds) : Stt K F { g with ce := g.ce ++ [.lst ds] } tm s H B (al ++ [p]) := by
  obtain ⟨t, ht⟩ := S.pre
  refine { fb := S.fb, bh := S.bh, fo := ?_, pre := ⟨t ++ [p], by rw [ht, List.append_assoc]⟩, len := by rw [List.length_append, List.length_append, S.len]; rfl, nd := ?_, lv := ?_, nb := ?_, ce := ?_, sl := ?_, tm := ?_, sln := S.sln }
  · intro a o e
    obtain ⟨h1, h2, h3⟩ := S.fo a o e
    refine ⟨h1, h2, fun z => ?_⟩
    rcases List.mem_append.mp z with z | z
    · exact h3 z
    · rw [List.mem_singleton.mp z, ho] at e; cases e
  · refine List.nodup_append.mpr ⟨S.nd, by simp, fun a ha' b hb' => ?_⟩
    rw [List.mem_singleton.mp hb']
    exact fun z => ha (z ▸ ha')
  · intro a ha'
    rcases List.mem_append.mp ha' with z | z
    · exact S.lv a z
    · rw [List.mem_singleton.mp z]; exact ⟨_, hp⟩
  · intro j a ct h1 h2 h3
    by_cases hj : j < al.length
    · rw [List.getElem?_append_left hj] at h1
      rw [List.getElem?_append_left (by rw [← S.len]; exact hj)] at h2
      exact S.nb j a ct h1 h2 h3
    · rw [List.getElem?_append_right (by omega)] at h1
      rw [List.mem_singleton.mp (List.mem_of_getElem? h1)]
      exact hb
  · intro j a ct h1 h2
    by_cases hj : j < al.length
    · rw [List.getElem?_append_left hj] at h1
      rw [List.getElem?_append_left (by rw [← S.len]; exact hj)] at h2
      exact ct_mono (Same.refl _) (fun o e => e) (S.ce j a ct h1 h2)
    · rw [List.getElem?_append_right (by omega)] at h1
      rw [List.getElem?_append_right (by rw [← S.len]; omega)] at h2
      have e1 : a = p := List.mem_singleton.mp (List.mem_of_getElem? h1)
      have e2 : ct = .lst ds := List.mem_singleton.mp (List.mem_of_getElem? h2)
      subst e1 e2
      exact ⟨xs, hp, hd⟩
  · intro i r e
    obtain ⟨v, h1, h2⟩ := S.sl i r e
    exact ⟨v, h1, rv_mono (Same.refl _) h2⟩
  · intro q hq
    exact rv_mono (Same.refl _) (S.tm q hq)
end

/-! ### promises -/
def spN (K : PySem.W.Frag) (C : List R → (Res → Prop) → Prop) : Sp := fun vs H Q _ => ∃ (B O : Hp) (rs : List R) (k : Res → Prop), Stt K ⟨B, O, []⟩ ⟨[], []⟩ [] [] H B [] ∧ Paired (RvOk K B []) vs rs ∧ C rs k ∧
  ∀ v H' q B' al' ce', k q → Stt K ⟨B, O, []⟩ ⟨[], ce'⟩ [] [] H' B' al' → ResOk B' al' ce' 0 v q → Q v H'
def spB (K : PySem.W.Frag) (C : List PyData → List R → (Res → List PyData → Prop) → Prop) : Sp := fun vs H Q _ => ∃ (B O : Hp) (p : Addr) (bx : List PyData) (ws : List V) (rs : List R) (k : Res → List PyData → Prop), vs = .ref p :: ws ∧ Stt K ⟨B, O, [p]⟩ ⟨[], [.lst bx]⟩ [] [] H B [p] ∧ Paired (RvOk K B [p]) ws rs ∧ C bx rs k ∧
  ∀ v H' q bx' B' al' ce', k q bx' → Stt K ⟨B, O, [p]⟩ ⟨[], .lst bx' :: ce'⟩ [] [] H' B' al' → ResOk B' al' (.lst bx' :: ce') 1 v q → Q v H'
def g0 (n : Nat) (rs : List R) (ce : List Ct) : G := ⟨rs.map some ++ List.replicate (n - rs.length) none, ce⟩
def endsN (k : Res → Prop) : DEnds := { nx := fun _ => k (.dat .none), rt := fun r g => retOk 0 g k r }
def endsB (k : Res → List PyData → Prop) : DEnds := { nx := fun g => ∃ bx, g.ce[0]? = some (.lst bx) ∧ k (.dat .none) bx, rt := fun r g => ∃ bx, g.ce[0]? = some (.lst bx) ∧ retOk 1 g (fun q => k q bx) r }
theorem paired_get {K : PySem.W.Frag} {B : Hp} {al : List Addr} : ∀ {vs : List V} {rs : List R} {i : Nat} {r : R}, Paired (RvOk K B al) vs rs → rs[i]? = some r → ∃ v, vs[i]? = some v ∧ RvOk K B al v r
  | _, _, _, _, .nil, e => by simp at e
  | _, _, 0, _, .cons a _, e => by
    simp at e
    subst e
    exact ⟨_, rfl, a⟩
  | _, _, i + 1, r, .cons _ t, e => by
    obtain ⟨v, h1, h2⟩ := paired_get (i := i) (r := r) t (by simpa using e)
    exact ⟨v, by simpa using h1, h2⟩
theorem stt_start {K : PySem.W.Frag} {F : Fm} {H B : Hp} {al : List Addr} {ce : List Ct} {N : List Str} {vs : List V} {rs : List R} (S : Stt K F ⟨[], ce⟩ [] [] H B al) (h : Paired (RvOk K B al) vs rs) : Stt K F (g0 N.length rs ce) [] (start N vs) H B al := by
  refine { S with sl := ?_, tm := (fun p hp => nomatch hp), sln := ?_ }
  · intro i r e
    unfold g0 at e
    have hi : i < rs.length := by
      by_cases hi : i < rs.length
      · exact hi
      · have e' : (rs.map some ++ List.replicate (N.length - rs.length) none)[i]? = some (some r) := e
        rw [List.getElem?_append_right (by simpa using hi), List.getElem?_replicate] at e'
        split at e' <;> cases e'
    have e' : (rs.map some ++ List.replicate (N.length - rs.length) none)[i]? = some (some r) := e
    rw [List.getElem?_append_left (by simpa using hi), List.getElem?_map] at e'
    cases er : rs[i]? with
    | none => rw [er] at e'; cases e'
    | some r' =>
      rw [er] at e'
      cases e'
      obtain ⟨v, h1, h2⟩ := paired_get h er
      refine ⟨v, ?_, h2⟩
      unfold L2.start
      rw [List.getElem?_append_left (by rw [List.length_map]; exact (List.getElem?_eq_some_iff.mp h1).1), List.getElem?_map, h1]
      rfl
  · show (rs.map some ++ List.replicate (N.length - rs.length) none).length = (start N vs).length
    unfold L2.start
    rw [List.length_append, List.length_append, List.length_map, List.length_map, List.length_replicate, List.length_replicate, h.length]
section
variable {P : Program} {w : World} {K : PySem.W.Frag} {mg : Str → Option Value} {base : Heap}
/-- THE RULE for a def without a box -/
theorem fnN {x qual : Str} {st : Stmt} {f : Addr} {fd : FuncData} {N ps : List Str} {k : Nat} {C : List R → (Res → Prop) → Prop} (F : Fun K x qual st f fd) (S : FnScope N ps (defScope st)) (len : ∀ rs kk, C rs kk → rs.length = ps.length)
    (body : ∀ (cdv : Value) (A : Around) (outer : List Env) (s : Shared) (H : Hp) (E : XK), Room k (A.deeper (envOfC qual (defScope st) s.heap.objs.size f cdv)) →
      ∃ ds : DS, PDSs (cxOf CX0 P w K mg base N qual (defScope st) f cdv A outer s H E).nox (defBody st) ds ∧ ∀ rs kk, C rs kk → ds (endsN kk) (g0 N.length rs [])) : FnOk P w K mg base CX0 (k + 1) f fd ps (spN K C) := by
  refine F.ok S (fun vs H Q E h => ?_) (fun cdv A outer s H vs Q E hr h => ?_)
  · obtain ⟨B, O, rs, kk, _, pr, hc, _⟩ := h
    rw [pr.length]
    exact len rs kk hc
  · obtain ⟨B, O, rs, kk, S0, pr, hc, q⟩ := h
    obtain ⟨ds, hd, hr⟩ := body cdv A outer s H E hr
    refine ⟨_, hd, ⟨B, O, []⟩, g0 N.length rs [], [], endsN kk, B, [], stt_start S0 pr, hr rs kk hc, ?_⟩
    refine ⟨fun s' H' g' B' al' h' S' => ?_, fun s' v H' r g' B' al' h' S' => ?_, fun s' H' g' B' al' h' S' => h'.elim, fun s' H' g' B' al' h' S' => h'.elim⟩
    · exact q .non H' (.dat .none) B' al' g'.ce h' S'.bare Dq.non
    · have hv := S'.top rfl
      cases r with
      | d y => exact q v H' (.dat y) B' al' g'.ce h' S'.bare hv
      | s ns => exact absurd h' id
      | o j =>
        obtain ⟨_, es, h1, h2⟩ := h'
        obtain ⟨p, e1, e2⟩ := hv
        exact q v H' (.new es) B' al' g'.ce h2 S'.bare ⟨j, p, Nat.zero_le _, e1, e2, h1⟩
/-- .. with a box as its first argument -/
theorem fnB {x qual : Str} {st : Stmt} {f : Addr} {fd : FuncData} {N ps : List Str} {k : Nat} {C : List PyData → List R → (Res → List PyData → Prop) → Prop} (F : Fun K x qual st f fd) (S : FnScope N ps (defScope st)) (len : ∀ bx rs kk, C bx rs kk → rs.length + 1 = ps.length)
    (body : ∀ (cdv : Value) (A : Around) (outer : List Env) (s : Shared) (H : Hp) (E : XK), Room k (A.deeper (envOfC qual (defScope st) s.heap.objs.size f cdv)) →
      ∃ ds : DS, PDSs (cxOf CX0 P w K mg base N qual (defScope st) f cdv A outer s H E).nox (defBody st) ds ∧ ∀ bx rs kk, C bx rs kk → ds (endsB kk) (g0 N.length (.o 0 :: rs) [.lst bx])) : FnOk P w K mg base CX0 (k + 1) f fd ps (spB K C) := by
  refine F.ok S (fun vs H Q E h => ?_) (fun cdv A outer s H vs Q E hr h => ?_)
  · obtain ⟨B, O, p, bx, ws, rs, kk, rfl, _, pr, hc, _⟩ := h
    rw [List.length_cons, pr.length]
    exact len bx rs kk hc
  · obtain ⟨B, O, p, bx, ws, rs, kk, rfl, S0, pr, hc, q⟩ := h
    obtain ⟨ds, hd, hr⟩ := body cdv A outer s H E hr
    refine ⟨_, hd, ⟨B, O, [p]⟩, g0 N.length (.o 0 :: rs) [.lst bx], [], endsB kk, B, [p], stt_start S0 (.cons ⟨p, rfl, rfl⟩ pr), hr bx rs kk hc, ?_⟩
    have fin : ∀ {g' : G} {bx' : List PyData} {tm' : List (V × R)} {s' : L2.St} {H' B' : Hp} {al' : List Addr}, g'.ce[0]? = some (.lst bx') → Stt K ⟨B, O, [p]⟩ g' tm' s' H' B' al' → ∃ ce', g'.ce = .lst bx' :: ce' := fun {g' bx' tm' s' H' B' al'} e _ => by
      cases hce : g'.ce with
      | nil => rw [hce] at e; cases e
      | cons c cs => rw [hce] at e; cases e; exact ⟨cs, rfl⟩
    refine ⟨fun s' H' g' B' al' h' S' => ?_, fun s' v H' r g' B' al' h' S' => ?_, fun s' H' g' B' al' h' S' => h'.elim, fun s' H' g' B' al' h' S' => h'.elim⟩
    · obtain ⟨bx', e, hk⟩ := h'
      obtain ⟨ce', ec⟩ := fin e S'
      have S2 := S'.bare
      rw [ec] at S2
      exact q .non H' (.dat .none) bx' B' al' ce' hk S2 Dq.non
    · obtain ⟨bx', e, hk⟩ := h'
      obtain ⟨ce', ec⟩ := fin e S'
      have hv := S'.top rfl
      have S2 := S'.bare
      rw [ec] at S2
      cases r with
      | d y => exact q v H' (.dat y) bx' B' al' ce' hk S2 hv
      | s ns => exact absurd hk id
      | o j =>
        obtain ⟨hj, es, h1, h2⟩ := hk
        obtain ⟨p', e1, e2⟩ := hv
        rw [ec] at h1
        exact q v H' (.new es) bx' B' al' ce' h2 S2 ⟨j, p', hj, e1, e2, h1⟩
end

/-! ### calls -/
section
variable {K : PySem.W.Frag} {F : Fm} {g : G} {tm : List (V × R)} {s : L2.St} {H B : Hp} {al : List Addr}
/-- what the callee must leave alone -/
def ownN (F : Fm) (H B : Hp) (al : List Addr) : Hp := fun a => if (al.contains a && (B a).isNone) = true then H a else F.O a
theorem ownN_in {a : Addr} (ha : a ∈ al) (hb : B a = none) : ownN F H B al a = H a := by
  unfold ownN
  rw [if_pos (by rw [hb, Bool.and_eq_true]; exact ⟨List.contains_iff_mem.mpr ha, rfl⟩)]
theorem ownN_out {a : Addr} (ha : a ∉ al) : ownN F H B al a = F.O a := by
  unfold ownN
  rw [if_neg (fun z => ha (List.contains_iff_mem.mp (Bool.and_eq_true_iff.mp z).1))]
theorem ownN_old {a : Addr} (ha : B a ≠ none) : ownN F H B al a = F.O a := by
  unfold ownN
  rw [if_neg (fun z => ha (Option.isNone_iff_eq_none.mp (Bool.and_eq_true_iff.mp z).2))]
theorem call_in (S : Stt K F g tm s H B al) : Stt K ⟨B, ownN F H B al, []⟩ ⟨[], []⟩ [] [] H B [] := by
  refine { fb := Same.refl _, bh := S.bh, fo := ?_, pre := ⟨[], rfl⟩, len := rfl, nd := List.nodup_nil, lv := (fun a ha => nomatch ha), nb := (fun j a ct h => by simp at h), ce := (fun j a ct h => by simp at h), sl := (fun i r h => by simp at h), tm := (fun p hp => nomatch hp), sln := rfl }
  intro a o e
  by_cases ha : a ∈ al
  · cases hb : B a with
    | none =>
      have e' : ownN F H B al a = some o := e
      rw [ownN_in ha hb] at e'
      exact ⟨e', rfl, by simp⟩
    | some u =>
      have e' : ownN F H B al a = some o := e
      rw [ownN_old (by rw [hb]; simp)] at e'
      exact absurd ha (S.fo a o e').2.2
  · have e' : ownN F H B al a = some o := e
    rw [ownN_out ha] at e'
    obtain ⟨h1, h2, _⟩ := S.fo a o e'
    exact ⟨h1, h2, by simp⟩
theorem call_out (S : Stt K F g tm s H B al) {H' B' : Hp} {al' : List Addr} {ce' : List Ct} (S' : Stt K ⟨B, ownN F H B al, []⟩ ⟨[], ce'⟩ [] [] H' B' al') : Stt K F g tm s H' B' al := by
  have eB : Same B B' := S'.fb
  have old : ∀ a ∈ al, B a = none → ∀ o, H a = some o → H' a = some o ∧ B' a = none := fun a ha hb o ho => by
    obtain ⟨h1, h2, _⟩ := S'.fo a o (by show ownN F H B al a = some o; rw [ownN_in ha hb]; exact ho)
    exact ⟨h1, h2⟩
  refine { fb := S.fb.trans eB, bh := S'.bh, fo := ?_, pre := S.pre, len := S.len, nd := S.nd, lv := ?_, nb := ?_, ce := ?_, sl := ?_, tm := ?_, sln := S.sln }
  · intro a o e
    obtain ⟨h1, h2, h3⟩ := S.fo a o e
    obtain ⟨q1, q2, _⟩ := S'.fo a o (by show ownN F H B al a = some o; rw [ownN_out h3]; exact e)
    exact ⟨q1, q2, h3⟩
  · intro a ha
    obtain ⟨o, ho⟩ := S.lv a ha
    cases hb : B a with
    | none => exact ⟨o, (old a ha hb o ho).1⟩
    | some u => exact ⟨u, S'.bh _ _ (eB _ _ hb)⟩
  · intro j a ct h1 h2 h3
    have ha := List.mem_of_getElem? h1
    obtain ⟨o, ho⟩ := S.lv a ha
    exact (old a ha (S.nb j a ct h1 h2 h3) o ho).2
  · intro j a ct h1 h2
    have ha := List.mem_of_getElem? h1
    by_cases hd : ct = .dead
    · subst hd; trivial
    · exact ct_mono0 eB (fun o e => (old a ha (S.nb j a ct h1 h2 hd) o e).1) (S.ce j a ct h1 h2)
  · intro i r e
    obtain ⟨v, h1, h2⟩ := S.sl i r e
    exact ⟨v, h1, rv_mono0 eB h2⟩
  · intro q hq
    exact rv_mono0 eB (S.tm q hq)
/-- the new list of a callee is nobody's -/
theorem call_new (S : Stt K F g tm s H B al) {H' B' : Hp} {al' : List Addr} {ce' : List Ct} {j : Nat} {p : Addr} {ds : List PyData} (S' : Stt K ⟨B, ownN F H B al, []⟩ ⟨[], ce'⟩ [] [] H' B' al') (h1 : al'[j]? = some p) (h2 : ce'[j]? = some (.lst ds)) :
    ∃ xs, H' p = some (.lst xs) ∧ B' p = none ∧ p ∉ al ∧ F.O p = none ∧ DqAll B' xs ds := by
  obtain ⟨xs, hx, hd⟩ := S'.ce j p _ h1 h2
  have hb := S'.nb j p _ h1 h2 (by simp)
  have hm := List.mem_of_getElem? h1
  refine ⟨xs, hx, hb, fun ha => ?_, ?_, hd⟩
  · cases hB : B p with
    | none =>
      obtain ⟨o, ho⟩ := S.lv p ha
      exact (S'.fo p o (by show ownN F H B al p = some o; rw [ownN_in ha hB]; exact ho)).2.2 hm
    | some u => rw [S'.fb _ _ hB] at hb; cases hb
  · cases hF : F.O p with
    | none => rfl
    | some o => exact absurd hm (S'.fo p o (by show ownN F H B al p = some o; rw [ownN_out (S.fo p o hF).2.2]; exact hF)).2.2
theorem rv_noO {B : Hp} {al al' : List Addr} : ∀ {vs : List V} {rs : List R}, Paired (RvOk K B al) vs rs → (∀ r ∈ rs, noO r = true) → Paired (RvOk K B al') vs rs
  | _, _, .nil, _ => .nil
  | _, _, @Paired.cons _ _ _ v r vs rs a b, h => .cons (by
      cases r with
      | d x => exact a
      | s ns => exact a
      | o j => exact absurd (h _ List.mem_cons_self) Bool.false_ne_true) (rv_noO b fun r hr => h r (List.mem_cons_of_mem _ hr))
end
def dCallN (C : List R → (Res → Prop) → Prop) (da : DA) : DE := fun g k => da g fun rs g1 => (∀ r ∈ rs, noO r = true) ∧ C rs fun q => match q with
  | .dat x => k (.d x) g1
  | .new ds => k (.d (.list ds)) g1
def dCallNO (C : List R → (Res → Prop) → Prop) (da : DA) : DE := fun g k => da g fun rs g1 => (∀ r ∈ rs, noO r = true) ∧ C rs fun q => match q with
  | .dat x => k (.d x) g1
  | .new ds => k (.o g1.ce.length) { g1 with ce := g1.ce ++ [.lst ds] }
section
variable {X : Cx} {k : Nat} {f : Addr} {fd : FuncData} {ps : List Str} {x : Str} {p pos : Pos} {e : Expr} {es : List Expr} {K : PySem.W.Frag} {C : List R → (Res → Prop) → Prop} {da : DA}
theorem ref_callN : ∀ s H Q, lift K (dCallN C da) s H Q → tCall (spN K C) [] E0 (liftA K da) s H Q := fun s H Q ⟨F, g, tm, kk, B, al, S, hk, q⟩ =>
  ⟨F, g, tm, _, B, al, S, hk, fun vs H1 rs g1 B1 al1 ⟨hn, hc⟩ S1 pr => by
    show spN K C (vs ++ []) H1 Q E0
    rw [List.append_nil]
    refine ⟨B1, ownN F H1 B1 al1, rs, _, call_in S1, rv_noO pr hn, hc, fun v H' qq B' al' ce' h' S' hr => ?_⟩
    have S2 := call_out S1 S'
    cases qq with
    | dat y => exact q v H' (.d y) g1 B' al1 h' (S2.push hr)
    | new ds =>
      obtain ⟨j, p, _, e1, e2, e3⟩ := hr
      subst e2
      obtain ⟨xs, a1, a2, a3, a4, a5⟩ := call_new S1 S' e1 e3
      exact q _ H' (.d (.list ds)) g1 _ al1 h' ((S2.adopt a1 a2 a3 a4).push (Dq.lst upd_same (dqall_mono (same_new a2) a5)))⟩
theorem ref_callNO : ∀ s H Q, lift K (dCallNO C da) s H Q → tCall (spN K C) [] E0 (liftA K da) s H Q := fun s H Q ⟨F, g, tm, kk, B, al, S, hk, q⟩ =>
  ⟨F, g, tm, _, B, al, S, hk, fun vs H1 rs g1 B1 al1 ⟨hn, hc⟩ S1 pr => by
    show spN K C (vs ++ []) H1 Q E0
    rw [List.append_nil]
    refine ⟨B1, ownN F H1 B1 al1, rs, _, call_in S1, rv_noO pr hn, hc, fun v H' qq B' al' ce' h' S' hr => ?_⟩
    have S2 := call_out S1 S'
    cases qq with
    | dat y => exact q v H' (.d y) g1 B' al1 h' (S2.push hr)
    | new ds =>
      obtain ⟨j, p, _, e1, e2, e3⟩ := hr
      subst e2
      obtain ⟨xs, a1, a2, a3, a4, a5⟩ := call_new S1 S' e1 e3
      exact q _ H' _ _ B' (al1 ++ [p]) h' ((S2.adoptO a1 a2 a3 a4 a5).push ⟨p, S2.own_at, rfl⟩)⟩
theorem pd_callN (G : FnOk X.prog X.w X.K X.mg X.base CX0 k f fd ps (spN X.K C)) (hr : Room k X.A) (hg : Gl X x) (hm : X.mg x = some (.ref f)) (hk : PySem.W.keepIn X.K (.ref f) = true) (hb : Binds X.K fd ps []) (ha : PDA X (e :: es) da) (hdb : (x == ("__debug__" : Str)) = false := by decide)
    (he : starEach (e :: es) X.env = (false, eval e X.env) :: starEach es X.env := by rfl) (hpl : (backTo pos (starEach es X.env)).any (·.1) = false := by rfl) : PD X (.Call (.Name x p) (e :: es) [] pos) (dCallN C da) :=
  pe_imp (pe_call G hr hg hm hk hb .nil pass0 ha hdb he hpl) ref_callN
theorem pd_callNO (G : FnOk X.prog X.w X.K X.mg X.base CX0 k f fd ps (spN X.K C)) (hr : Room k X.A) (hg : Gl X x) (hm : X.mg x = some (.ref f)) (hk : PySem.W.keepIn X.K (.ref f) = true) (hb : Binds X.K fd ps []) (ha : PDA X (e :: es) da) (hdb : (x == ("__debug__" : Str)) = false := by decide)
    (he : starEach (e :: es) X.env = (false, eval e X.env) :: starEach es X.env := by rfl) (hpl : (backTo pos (starEach es X.env)).any (·.1) = false := by rfl) : PD X (.Call (.Name x p) (e :: es) [] pos) (dCallNO C da) :=
  pe_imp (pe_call G hr hg hm hk hb .nil pass0 ha hdb he hpl) ref_callNO
end

/-! ### calls with a box -/
section
variable {K : PySem.W.Frag} {F : Fm} {g : G} {tm : List (V × R)} {s : L2.St} {H B : Hp} {al : List Addr}
def ownB (F : Fm) (H B : Hp) (al : List Addr) (pb : Addr) : Hp := fun a => if a = pb then none else ownN F H B al a
theorem callB_in (S : Stt K F g tm s H B al) {b : Nat} {pb : Addr} {bx : List PyData} (h1 : al[b]? = some pb) (h2 : g.ce[b]? = some (.lst bx)) : Stt K ⟨B, ownB F H B al pb, [pb]⟩ ⟨[], [.lst bx]⟩ [] [] H B [pb] := by
  have S0 := call_in S
  obtain ⟨xs, hx, hd⟩ := S.ce b pb _ h1 h2
  refine { fb := Same.refl _, bh := S.bh, fo := ?_, pre := ⟨[], rfl⟩, len := rfl, nd := by simp, lv := ?_, nb := ?_, ce := ?_, sl := (fun i r h => by simp at h), tm := (fun p hp => nomatch hp), sln := rfl }
  · intro a o e
    have e' : ownB F H B al pb a = some o := e
    unfold ownB at e'
    by_cases ha : a = pb
    · rw [if_pos ha] at e'; cases e'
    · rw [if_neg ha] at e'
      obtain ⟨q1, q2, _⟩ := S0.fo a o e'
      exact ⟨q1, q2, by simpa using ha⟩
  · intro a ha
    rw [List.mem_singleton.mp ha]
    exact ⟨_, hx⟩
  · intro j a ct e1 e2 e3
    rw [List.mem_singleton.mp (List.mem_of_getElem? e1)]
    exact S.nb b pb _ h1 h2 (by simp)
  · intro j a ct e1 e2
    have z1 := List.mem_singleton.mp (List.mem_of_getElem? e1)
    have z2 := List.mem_singleton.mp (List.mem_of_getElem? e2)
    subst z1 z2
    exact ⟨xs, hx, hd⟩
theorem callB_out (S : Stt K F g tm s H B al) {b : Nat} {pb : Addr} {bx bx' : List PyData} (h1 : al[b]? = some pb) (h2 : g.ce[b]? = some (.lst bx)) {H' B' : Hp} {al' : List Addr} {ce' : List Ct} (S' : Stt K ⟨B, ownB F H B al pb, [pb]⟩ ⟨[], .lst bx' :: ce'⟩ [] [] H' B' al') :
    Stt K F { g with ce := g.ce.set b (.lst bx') } tm s H' B' al := by
  have eB : Same B B' := S'.fb
  obtain ⟨t, ht⟩ := S'.pre
  have ht : al' = pb :: t := ht
  have hbl : b < g.ce.length := (List.getElem?_eq_some_iff.mp h2).1
  have old : ∀ a ∈ al, a ≠ pb → B a = none → ∀ o, H a = some o → H' a = some o ∧ B' a = none := fun a ha hp hb o ho => by
    obtain ⟨q1, q2, _⟩ := S'.fo a o (by show ownB F H B al pb a = some o; unfold ownB; rw [if_neg hp, ownN_in ha hb]; exact ho)
    exact ⟨q1, q2⟩
  obtain ⟨xs, hx, hd⟩ := S'.ce 0 pb (.lst bx') (by rw [ht]; rfl) rfl
  have hbp : B' pb = none := S'.nb 0 pb (.lst bx') (by rw [ht]; rfl) rfl (by simp)
  have inj : ∀ (j : Nat) (a : Addr), al[j]? = some a → a = pb → j = b := fun j a e z => by
    subst z
    exact (List.getElem?_inj (List.getElem?_eq_some_iff.mp e).1 S.nd).mp (e.trans h1.symm)
  refine { fb := S.fb.trans eB, bh := S'.bh, fo := ?_, pre := S.pre, len := by rw [List.length_set]; exact S.len, nd := S.nd, lv := ?_, nb := ?_, ce := ?_, sl := ?_, tm := ?_, sln := S.sln }
  · intro a o e
    obtain ⟨z1, z2, z3⟩ := S.fo a o e
    have ne : a ≠ pb := fun z => z3 (z ▸ List.mem_of_getElem? h1)
    obtain ⟨q1, q2, _⟩ := S'.fo a o (by show ownB F H B al pb a = some o; unfold ownB; rw [if_neg ne, ownN_out z3]; exact e)
    exact ⟨q1, q2, z3⟩
  · intro a ha
    by_cases hp : a = pb
    · rw [hp]; exact ⟨_, hx⟩
    · obtain ⟨o, ho⟩ := S.lv a ha
      cases hb : B a with
      | none => exact ⟨o, (old a ha hp hb o ho).1⟩
      | some u => exact ⟨u, S'.bh _ _ (eB _ _ hb)⟩
  · intro j a ct e1 e2 e3
    by_cases hp : a = pb
    · rw [hp]; exact hbp
    · have hj : j ≠ b := fun z => by
        subst z
        rw [h1] at e1
        cases e1
        exact hp rfl
      have e2 : (g.ce.set b (.lst bx'))[j]? = some ct := e2
      rw [List.getElem?_set_ne (Ne.symm hj)] at e2
      have ha := List.mem_of_getElem? e1
      obtain ⟨o, ho⟩ := S.lv a ha
      exact (old a ha hp (S.nb j a ct e1 e2 e3) o ho).2
  · intro j a ct e1 e2
    have e2 : (g.ce.set b (.lst bx'))[j]? = some ct := e2
    by_cases hp : a = pb
    · have hj := inj j a e1 hp
      subst hj
      rw [List.getElem?_set_self hbl] at e2
      cases e2
      rw [hp]
      exact ⟨xs, hx, hd⟩
    · have hj : j ≠ b := fun z => by
        subst z
        rw [h1] at e1
        cases e1
        exact hp rfl
      rw [List.getElem?_set_ne (Ne.symm hj)] at e2
      have ha := List.mem_of_getElem? e1
      by_cases hdd : ct = .dead
      · subst hdd; trivial
      · exact ct_mono0 eB (fun o e => (old a ha hp (S.nb j a ct e1 e2 hdd) o e).1) (S.ce j a ct e1 e2)
  · intro i r e
    obtain ⟨v, q1, q2⟩ := S.sl i r e
    exact ⟨v, q1, rv_mono0 eB q2⟩
  · intro q hq
    exact rv_mono0 eB (S.tm q hq)
theorem callB_new (S : Stt K F g tm s H B al) {b : Nat} {pb : Addr} {bx bx' : List PyData} (h1 : al[b]? = some pb) {H' B' : Hp} {al' : List Addr} {ce' : List Ct} {j : Nat} {p : Addr} {ds : List PyData} (S' : Stt K ⟨B, ownB F H B al pb, [pb]⟩ ⟨[], .lst bx' :: ce'⟩ [] [] H' B' al') (hj : 1 ≤ j)
    (e1 : al'[j]? = some p) (e2 : (Ct.lst bx' :: ce')[j]? = some (.lst ds)) : ∃ xs, H' p = some (.lst xs) ∧ B' p = none ∧ p ∉ al ∧ F.O p = none ∧ DqAll B' xs ds := by
  obtain ⟨xs, hx, hd⟩ := S'.ce j p _ e1 e2
  have hb := S'.nb j p _ e1 e2 (by simp)
  have hm := List.mem_of_getElem? e1
  obtain ⟨t, ht⟩ := S'.pre
  have ht : al' = pb :: t := ht
  have np : p ≠ pb := fun z => by
    subst z
    have z0 : al'[0]? = some p := by rw [ht]; rfl
    have := (List.getElem?_inj (List.getElem?_eq_some_iff.mp e1).1 S'.nd).mp (e1.trans z0.symm)
    omega
  refine ⟨xs, hx, hb, fun ha => ?_, ?_, hd⟩
  · cases hB : B p with
    | none =>
      obtain ⟨o, ho⟩ := S.lv p ha
      exact (S'.fo p o (by show ownB F H B al pb p = some o; unfold ownB; rw [if_neg np, ownN_in ha hB]; exact ho)).2.2 hm
    | some u => rw [S'.fb _ _ hB] at hb; cases hb
  · cases hF : F.O p with
    | none => rfl
    | some o => exact absurd hm (S'.fo p o (by show ownB F H B al pb p = some o; unfold ownB; rw [if_neg np, ownN_out (S.fo p o hF).2.2]; exact hF)).2.2
end
def dCallB (C : List PyData → List R → (Res → List PyData → Prop) → Prop) (da : DA) : DE := fun g k => da g fun rs g1 => ∃ b bx rs', rs = .o b :: rs' ∧ (∀ r ∈ rs', noO r = true) ∧ g1.ce[b]? = some (.lst bx) ∧ C bx rs' fun q bx' => match q with
  | .dat x => k (.d x) { g1 with ce := g1.ce.set b (.lst bx') }
  | .new ds => k (.d (.list ds)) { g1 with ce := g1.ce.set b (.lst bx') }
def dCallBO (C : List PyData → List R → (Res → List PyData → Prop) → Prop) (da : DA) : DE := fun g k => da g fun rs g1 => ∃ b bx rs', rs = .o b :: rs' ∧ (∀ r ∈ rs', noO r = true) ∧ g1.ce[b]? = some (.lst bx) ∧ C bx rs' fun q bx' => match q with
  | .dat x => k (.d x) { g1 with ce := g1.ce.set b (.lst bx') }
  | .new ds => k (.o g1.ce.length) { g1 with ce := g1.ce.set b (.lst bx') ++ [.lst ds] }
section
variable {X : Cx} {k : Nat} {f : Addr} {fd : FuncData} {ps : List Str} {x : Str} {p pos : Pos} {e : Expr} {es : List Expr} {K : PySem.W.Frag} {C : List PyData → List R → (Res → List PyData → Prop) → Prop} {da : DA}
theorem ref_callB : ∀ s H Q, lift K (dCallB C da) s H Q → tCall (spB K C) [] E0 (liftA K da) s H Q := fun s H Q ⟨F, g, tm, kk, B, al, S, hk, q⟩ =>
  ⟨F, g, tm, _, B, al, S, hk, fun vs H1 rs g1 B1 al1 ⟨b, bx, rs', er, hn, hb, hc⟩ S1 pr => by
    subst er
    cases pr with
    | @cons v0 _ vs' _ pa pr =>
      obtain ⟨pb, e1, e2⟩ := pa
      subst e2
      refine ⟨B1, ownB F H1 B1 al1 pb, pb, bx, vs' ++ [], rs', _, rfl, callB_in S1 e1 hb, by rw [List.append_nil]; exact rv_noO pr hn, hc, fun v H' qq bx' B' al' ce' h' S' hr => ?_⟩
      have S2 := callB_out S1 e1 hb S'
      cases qq with
      | dat y => exact q v H' (.d y) _ B' al1 h' (S2.push hr)
      | new ds =>
        obtain ⟨j, p, hj, z1, z2, z3⟩ := hr
        subst z2
        obtain ⟨xs, a1, a2, a3, a4, a5⟩ := callB_new (bx := bx) S1 e1 S' hj z1 z3
        exact q _ H' (.d (.list ds)) _ _ al1 h' ((S2.adopt a1 a2 a3 a4).push (Dq.lst upd_same (dqall_mono (same_new a2) a5)))⟩
theorem ref_callBO : ∀ s H Q, lift K (dCallBO C da) s H Q → tCall (spB K C) [] E0 (liftA K da) s H Q := fun s H Q ⟨F, g, tm, kk, B, al, S, hk, q⟩ =>
  ⟨F, g, tm, _, B, al, S, hk, fun vs H1 rs g1 B1 al1 ⟨b, bx, rs', er, hn, hb, hc⟩ S1 pr => by
    subst er
    cases pr with
    | @cons v0 _ vs' _ pa pr =>
      obtain ⟨pb, e1, e2⟩ := pa
      subst e2
      refine ⟨B1, ownB F H1 B1 al1 pb, pb, bx, vs' ++ [], rs', _, rfl, callB_in S1 e1 hb, by rw [List.append_nil]; exact rv_noO pr hn, hc, fun v H' qq bx' B' al' ce' h' S' hr => ?_⟩
      have S2 := callB_out S1 e1 hb S'
      cases qq with
      | dat y => exact q v H' (.d y) _ B' al1 h' (S2.push hr)
      | new ds =>
        obtain ⟨j, p, hj, z1, z2, z3⟩ := hr
        subst z2
        obtain ⟨xs, a1, a2, a3, a4, a5⟩ := callB_new (bx := bx) S1 e1 S' hj z1 z3
        have z := S2.own_at (p := p)
        have z' : (al1 ++ [p])[(g1.ce.set b (.lst bx')).length]? = some p := z
        rw [List.length_set] at z'
        exact q _ H' _ _ B' (al1 ++ [p]) h' ((S2.adoptO a1 a2 a3 a4 a5).push ⟨p, z', rfl⟩)⟩
theorem pd_callBx (G : FnOk X.prog X.w X.K X.mg X.base CX0 k f fd ps (spB X.K C)) (hr : Room k X.A) (hg : Gl X x) (hm : X.mg x = some (.ref f)) (hk : PySem.W.keepIn X.K (.ref f) = true) (hb : Binds X.K fd ps []) (ha : PDA X (e :: es) da) (hdb : (x == ("__debug__" : Str)) = false := by decide)
    (he : starEach (e :: es) X.env = (false, eval e X.env) :: starEach es X.env := by rfl) (hpl : (backTo pos (starEach es X.env)).any (·.1) = false := by rfl) : PD X (.Call (.Name x p) (e :: es) [] pos) (dCallB C da) :=
  pe_imp (pe_call G hr hg hm hk hb .nil pass0 ha hdb he hpl) ref_callB
theorem pd_callBxO (G : FnOk X.prog X.w X.K X.mg X.base CX0 k f fd ps (spB X.K C)) (hr : Room k X.A) (hg : Gl X x) (hm : X.mg x = some (.ref f)) (hk : PySem.W.keepIn X.K (.ref f) = true) (hb : Binds X.K fd ps []) (ha : PDA X (e :: es) da) (hdb : (x == ("__debug__" : Str)) = false := by decide)
    (he : starEach (e :: es) X.env = (false, eval e X.env) :: starEach es X.env := by rfl) (hpl : (backTo pos (starEach es X.env)).any (·.1) = false := by rfl) : PD X (.Call (.Name x p) (e :: es) [] pos) (dCallBO C da) :=
  pe_imp (pe_call G hr hg hm hk hb .nil pass0 ha hdb he hpl) ref_callBO
end
end DL

set_option Elab.async false
set_option linter.all false
set_option maxRecDepth 100000
set_option maxHeartbeats 4000000
set_option autoImplicit false
/-! printed by wip/gen/genzip.py -/
namespace DZ
open PySem
open PySem.Sem (wp)
section
variable {prog : Program} {w : World} {A : Around} {E : Value → Shared → Prop} {s : Shared}
theorem nx_item {it : Addr} {fp : List Addr} {n i : Nat} {P : Nat → Value → Prop} {St : Nat → Heap → Prop} {Q : Option Value → Shared → Prop} (D : Draws prog w A it fp n P St) (hi : i < n) (st : St i s.heap)
    (hQ : ∀ x h' tk, P i x → St (i + 1) h' → Heap.SameBut it s.heap h' → Q (some x) { s with heap := h', toks := tk }) : wpAny (model prog w) A (Builtin.SmallTypes.nextOrEnd (.ref it)) Q E s := by
  unfold Builtin.SmallTypes.nextOrEnd
  exact wpAny_bind (wpAny_attempt (D.item i s _ _ hi st fun x h' tk hx st' hs => wpAny_pure (hQ x h' tk hx st' hs)))
theorem nx_done {it : Addr} {fp : List Addr} {n : Nat} {P : Nat → Value → Prop} {St : Nat → Heap → Prop} {Q : Option Value → Shared → Prop} (D : Draws prog w A it fp n P St) (st : St n s.heap)
    (hQ : ∀ h', Heap.ExtBut it s.heap h' → Q none { s with heap := h' }) : wpAny (model prog w) A (Builtin.SmallTypes.nextOrEnd (.ref it)) Q E s := by
  unfold Builtin.SmallTypes.nextOrEnd
  refine wpAny_bind (wpAny_attempt (D.done s _ _ st fun h' e hb he => ?_))
  obtain ⟨o, ho, hc⟩ := he
  refine wpAny_bind (wpAny_isInstance (T := "StopIteration") (b := true) ⟨o, ho, hc⟩ isSubtype_stop ?_)
  exact wpAny_pure (hQ h' hb)
theorem stop_raised {α : Type} {Q : α → Shared → Prop} (hh : A.handled = none) (hE : ∀ h' e, (∀ b o, s.heap.get? b = some o → h'.get? b = some o) → (∃ o, h'.get? e = some o ∧ o.cls = .type "StopIteration") → E (.ref e) { s with heap := h' }) :
    wpAny (model prog w) A (Builtin.SmallTypes.stopIteration (α := α)) Q E s := by
  unfold Builtin.SmallTypes.stopIteration
  refine wpAny_bind ?_
  simp only [newExc, newTuple]
  refine wpAny_bind (wpAny_newObj_type ?_ (by size_fits))
  refine wpAny_bind (m := firstArgMember _ _) (wpAny_of_eq (a := Value.none) (by first | rfl | (simp only [firstArgMember]; rfl)) ?_)
  refine wpAny_newObj_type ?_ (by size_fits)
  simp only [raiseNew]
  refine wpAny_bind (wpAny_handled ?_)
  rw [hh]
  refine wpAny_bind (wpAny_pure (wpAny_throw ?_))
  exact hE _ _ (fun b o e => Heap.get?_push_of_some _ (Heap.get?_push_of_some _ e)) ⟨_, Heap.get?_push_size _ rfl, rfl⟩
theorem overX {it : Addr} {fp : List Addr} {n : Nat} {P : Nat → Value → Prop} {St : Nat → Heap → Prop} (D : Draws prog w A it fp n P St) {i : Nat} {h h' : Heap} {x : Addr} (st : St i h) (hs : Heap.ExtBut x h h') (hx : x ∉ fp) : St i h' :=
  D.frame i h h' st fun b hb o e => hs b o (fun q => hx (q ▸ hb)) e
end

/-- a zip, strict: true -/
abbrev IsZS (h : Heap) (z TI TO : Addr) (f0 : Value) (f : Bool) : Prop := h.get? z = some { cls := .type "zip", dict := none, data := .fields #[f0, .bool f, .bool true, .ref TI, .ref TO], slots := #[] }
section
variable {prog : Program} {w : World} {A : Around} {E : Value → Shared → Prop} {s : Shared}
theorem heldS {z TI TO T : Addr} {f : Bool} {oT : Obj} {Q : Bool → Shared → Prop} (hz : IsZS s.heap z TI TO (rawInt T) f) (hT : s.heap.get? T = some oT)
    (h : ∀ h', IsZS h' z TI TO (rawInt T) true → Heap.SameBut z s.heap h' → Q false { s with heap := h' }) : wpAny (model prog w) A (Builtin.SmallTypes.ownedTupleIsFree (.ref z)) Q E s := by
  unfold Builtin.SmallTypes.ownedTupleIsFree
  refine wpAny_bind (wpAny_field hz rfl (x := rawInt T) rfl ?_)
  show wpAny _ _ (loadIfAlive ((T : Int).toNat) >>= _) _ _ _
  rw [Int.toNat_natCast]
  refine wpAny_bind (PySem.W.kdx_alive hT ?_)
  simp only [Option.isNone_some, Bool.false_eq_true, if_false]
  refine wpAny_bind (wpAny_field hz rfl (x := .bool f) rfl ?_)
  cases f with
  | true =>
    rw [if_neg (show ¬ ((Value.bool true != Value.bool true) = true) from Bool.false_ne_true)]
    exact wpAny_pure (h s.heap hz (Heap.SameBut.refl _ _))
  | false =>
    rw [if_pos (show (Value.bool false != Value.bool true) = true from rfl)]
    exact wpAny_bind (wpAny_setField_rec hz (by simp) fun h₁ hz₁ hs₁ => wpAny_pure (h h₁ hz₁ hs₁))
theorem goS {elts : List Expr} {x1 : Nat} {pos : Pos} {z TI TO T : Addr} {f : Bool} {Q : Unit → Shared → Prop} (hz : IsZS s.heap z TI TO (rawInt T) f) (hQ : ∀ h', IsZS h' z TI TO .none f → Heap.SameBut z s.heap h' → Q () { s with heap := h' }) :
    wpAny (model prog w) A (letOwnedTupleGo (.Tuple elts x1 pos) (.ref z) (.ref T)) Q E s := by
  unfold letOwnedTupleGo
  refine wpAny_bind (wpAny_load hz ?_)
  show wpAny _ _ (if (["enumerate", "zip", "dict_itemiterator", "dict_reverseitemiterator", "odict_iterator", "itertools.zip_longest", "itertools.pairwise"].contains "zip" &&
      (#[rawInt T, .bool f, .bool true, .ref TI, .ref TO] : Array Value)[0]? == some (rawInt T)) = true then _ else _) Q E s
  rw [if_pos (by simp)]
  refine wpAny_bind (wpAny_rule ?_)
  show wpAny _ _ (setField (.ref z) 0 .none) Q E s
  exact wpAny_setField_rec hz (by simp) fun h' hz' hs' => hQ h' hz' hs'
theorem iterS {z TI TO : Addr} {f0 : Value} {f : Bool} {Q : Value → Shared → Prop} (hz : IsZS s.heap z TI TO f0 f) (h : Q (.ref z) s) : wpAny (model prog w) A (pyIter (.ref z)) Q E s := by
  have hT : s.TypeIs (.ref z) "zip" := ⟨_, hz, rfl⟩
  refine wpAny_pyIter_slot hT F.slot_zip_iter (wpAny_call_entry F.slot_zip_iter hT F.entry_zip_iter ?_ (F.args_zip_iter_1 _))
  show wpAny _ _ (ret (.ref z)) _ _ s
  exact wpAny_pure ⟨_, rfl, "zip", _, hT, F.slot_zip_next.lookup, h⟩
end

section
variable {prog : Program} {w : World} {A : Around} {E : Value → Shared → Prop} {s : Shared} {z TI TO i1 i2 : Addr} {fp1 fp2 : List Addr} {m i : Nat} {P1 P2 : Nat → Value → Prop} {St1 St2 : Nat → Heap → Prop} {a1 a2 : Value} {f : Bool}
theorem zS2_item {Q : Value → Shared → Prop} (S : ZipSep2 z TI TO i1 i2 fp1 fp2) (D1 : Draws prog w A i1 fp1 m P1 St1) (D2 : Draws prog w A i2 fp2 m P2 St2)
    (hz : IsZS s.heap z TI TO .none f) (hTI : IsTupOf2 s.heap TI (.ref i1) (.ref i2)) (hTO : IsTupOf2 s.heap TO a1 a2) (st1 : St1 i s.heap) (st2 : St2 i s.heap) (hlt : i < m)
    (hQ : ∀ x1 x2 h' tk, P1 i x1 → P2 i x2 → IsZS h' z TI TO (rawInt s.heap.objs.size) false → IsTupOf2 h' TO x1 x2 → St1 (i + 1) h' → St2 (i + 1) h' → IsTupOf2 h' s.heap.objs.size x1 x2 → h'.objs.size = s.heap.objs.size + 1 →
      (∀ c o, c ≠ z → c ≠ TO → c ≠ i1 → c ≠ i2 → s.heap.get? c = some o → h'.get? c = some o) → Q (.ref s.heap.objs.size) { s with heap := h', toks := tk }) :
    wpAny (model prog w) A (Builtin.«zip.__next__» ⟨[.ref z], []⟩) (fun fin s' => ∃ v, fin = .done (.ret v) ∧ Q v s') E s := by
  obtain ⟨hp, g, d, tk0, os⟩ := s
  show wpAny _ _ (field (.ref z) 2 >>= _) _ _ _
  refine wpAny_bind (wpAny_field hz rfl (x := .bool true) rfl ?_)
  show wpAny _ _ (field (.ref z) 3 >>= _) _ _ _
  refine wpAny_bind (wpAny_field hz rfl (x := .ref TI) rfl ?_)
  refine wpAny_bind (wpAny_seqItems hTI rfl ?_)
  show wpAny _ _ (Builtin.SmallTypes.ownedTupleIsFree (.ref z) >>= _) _ _ _
  refine wpAny_bind ?_
  unfold Builtin.SmallTypes.ownedTupleIsFree
  refine wpAny_bind (wpAny_field hz rfl (x := .none) rfl (wpAny_pure ?_))
  simp only [if_true]
  refine wpAny_bind (wpAny_rule ?_)
  refine wpAny_bind (wpAny_field hz rfl (x := .ref TO) rfl ?_)
  refine wpAny_bind (wpAny_setField_rec hz (by simp) fun g0 hz0 hs0 => ?_)
  replace hz0 : IsZS g0 z TI TO .ellipsis f := hz0
  replace hs0 : Heap.SameBut z hp g0 := hs0
  refine wpAny_bind ?_
  simp only [List.zipIdx_cons, List.zipIdx_nil, List.forIn_cons, List.forIn_nil]
  refine wpAny_bind (wpAny_bind (wpAny_onRaise ?_))
  show wpAny _ _ (Builtin.SmallTypes.nextOrEnd (.ref i1)) _ _ ⟨g0, g, d, tk0, os⟩
  refine nx_item D1 hlt (D1.over st1 hs0 S.zf1) fun x1 p1 tk1 hx1 sn1 hp1 => ?_
  replace hp1 : Heap.SameBut i1 g0 p1 := hp1
  have hU1 : IsTupOf2 p1 TO a1 a2 := hp1.extBut _ _ S.Ti1 (hs0.extBut _ _ S.TOz hTO)
  refine wpAny_bind (wpAny_seqItems (s := ⟨p1, g, d, tk1, os⟩) hU1 rfl ?_)
  refine wpAny_bind (updateSeq_IsTupOf2 (s := ⟨p1, g, d, tk1, os⟩) hU1 fun g1 hT1 hs1 => ?_)
  replace hT1 : IsTupOf2 g1 TO x1 a2 := hT1
  replace hs1 : Heap.SameBut TO p1 g1 := hs1
  refine wpAny_bind (wpAny_letGo (wpAny_pure ?_))
  refine wpAny_bind (wpAny_bind (wpAny_onRaise ?_))
  show wpAny _ _ (Builtin.SmallTypes.nextOrEnd (.ref i2)) _ _ ⟨g1, g, d, tk1, os⟩
  refine nx_item D2 hlt (D2.over (D2.over (D2.over st2 hs0 S.zf2) hp1 S.sep1_2) hs1 S.Tf2) fun x2 p2 tk2 hx2 sn2 hp2 => ?_
  replace hp2 : Heap.SameBut i2 g1 p2 := hp2
  have hU2 : IsTupOf2 p2 TO x1 a2 := hp2.extBut _ _ S.Ti2 hT1
  refine wpAny_bind (wpAny_seqItems (s := ⟨p2, g, d, tk2, os⟩) hU2 rfl ?_)
  refine wpAny_bind (updateSeq_IsTupOf2 (s := ⟨p2, g, d, tk2, os⟩) hU2 fun g2 hT2 hs2 => ?_)
  replace hT2 : IsTupOf2 g2 TO x1 x2 := hT2
  replace hs2 : Heap.SameBut TO p2 g2 := hs2
  refine wpAny_bind (wpAny_letGo (wpAny_pure (wpAny_pure ?_)))
  refine wpAny_bind (wpAny_seqItems (s := ⟨g2, g, d, tk2, os⟩) hT2 rfl ?_)
  refine wpAny_bind (wpAny_newTuple ?_)
  have hsz : g2.objs.size = hp.objs.size := by rw [hs2.1, hp2.1, hs1.1, hp1.1, hs0.1]
  have hzz : IsZS g2 z TI TO .ellipsis f := hs2.extBut _ _ S.TOz.symm (hp2.extBut _ _ S.zi2 (hs1.extBut _ _ S.TOz.symm (hp1.extBut _ _ S.zi1 (hz0))))
  have hkk : ∀ c o, c ≠ z → c ≠ TO → c ≠ i1 → c ≠ i2 → hp.get? c = some o → g2.get? c = some o := fun c o cz cT c1 c2 e => hs2.extBut _ _ cT (hp2.extBut _ _ c2 (hs1.extBut _ _ cT (hp1.extBut _ _ c1 (hs0.extBut _ _ cz e))))
  have hj1 : St1 (i + 1) g2 := D1.over (D1.over (D1.over sn1 hs1 S.Tf1) hp2 S.sep2_1) hs2 S.Tf1
  have hj2 : St2 (i + 1) g2 := D2.over sn2 hs2 S.Tf2
  have hzlt : z < g2.objs.size := Heap.lt_size hzz
  show wpAny _ _ (Builtin.SmallTypes.ownedTupleHandOut (.ref z) (.ref g2.objs.size) >>= _) _ _ ⟨g2.push { cls := .type "tuple", data := .seq #[x1, x2] }, g, d, tk2, os⟩
  refine wpAny_bind ?_
  unfold Builtin.SmallTypes.ownedTupleHandOut
  have hz6 : IsZS (g2.push { cls := .type "tuple", data := .seq #[x1, x2] }) z TI TO .ellipsis f := Heap.get?_push_of_some _ hzz
  refine wpAny_bind (wpAny_setField_rec hz6 (by simp) fun h7 hz7 hs7 => ?_)
  replace hz7 : IsZS h7 z TI TO (rawInt g2.objs.size) f := hz7
  refine wpAny_setField_rec hz7 (by simp) fun h8 hz8 hs8 => ?_
  replace hz8 : IsZS h8 z TI TO (rawInt g2.objs.size) false := hz8
  replace hs7 : Heap.SameBut z (g2.push { cls := .type "tuple", data := .seq #[x1, x2] }) h7 := hs7
  replace hs8 : Heap.SameBut z h7 h8 := hs8
  have up : ∀ c o, c ≠ z → g2.get? c = some o → h8.get? c = some o := fun c o c1 e => hs8.extBut _ _ c1 (hs7.extBut _ _ c1 (Heap.get?_push_of_some _ e))
  have hT8 : IsTupOf2 h8 g2.objs.size x1 x2 := hs8.extBut _ _ (Nat.ne_of_gt hzlt) (hs7.extBut _ _ (Nat.ne_of_gt hzlt) (Heap.get?_push_size _ rfl))
  have hz9 : h8.objs.size = g2.objs.size + 1 := by rw [hs8.1, hs7.1, Heap.size_push]
  rw [hsz] at hz8 hT8 hz9
  refine wpAny_pure ⟨_, rfl, ?_⟩
  show Q (.ref g2.objs.size) ⟨h8, g, d, tk2, os⟩
  rw [hsz]
  exact hQ x1 x2 h8 tk2 hx1 hx2 hz8 (up _ _ S.TOz hT2) (D1.frame _ _ _ hj1 fun b hb o e => up b o (fun q => S.zf1 (q ▸ hb)) e) (D2.frame _ _ _ hj2 fun b hb o e => up b o (fun q => S.zf2 (q ▸ hb)) e) hT8 hz9 fun c o cz cT c1 c2 e => up c o cz (hkk c o cz cT c1 c2 e)

theorem zS2_itemH {T : Addr} {oT : Obj} {Q : Value → Shared → Prop} (S : ZipSep2 z TI TO i1 i2 fp1 fp2) (D1 : Draws prog w A i1 fp1 m P1 St1) (D2 : Draws prog w A i2 fp2 m P2 St2)
    (hz : IsZS s.heap z TI TO (rawInt T) f) (hT : s.heap.get? T = some oT) (hTI : IsTupOf2 s.heap TI (.ref i1) (.ref i2)) (st1 : St1 i s.heap) (st2 : St2 i s.heap) (hlt : i < m)
    (hQ : ∀ x1 x2 h' tk, P1 i x1 → P2 i x2 → IsZS h' z TI TO (rawInt T) true → St1 (i + 1) h' → St2 (i + 1) h' → IsTupOf2 h' s.heap.objs.size x1 x2 → h'.objs.size = s.heap.objs.size + 1 →
      (∀ c o, c ≠ z → c ≠ i1 → c ≠ i2 → s.heap.get? c = some o → h'.get? c = some o) → Q (.ref s.heap.objs.size) { s with heap := h', toks := tk }) :
    wpAny (model prog w) A (Builtin.«zip.__next__» ⟨[.ref z], []⟩) (fun fin s' => ∃ v, fin = .done (.ret v) ∧ Q v s') E s := by
  obtain ⟨hp, g, d, tk0, os⟩ := s
  show wpAny _ _ (field (.ref z) 2 >>= _) _ _ _
  refine wpAny_bind (wpAny_field hz rfl (x := .bool true) rfl ?_)
  show wpAny _ _ (field (.ref z) 3 >>= _) _ _ _
  refine wpAny_bind (wpAny_field hz rfl (x := .ref TI) rfl ?_)
  refine wpAny_bind (wpAny_seqItems hTI rfl ?_)
  show wpAny _ _ (Builtin.SmallTypes.ownedTupleIsFree (.ref z) >>= _) _ _ _
  refine wpAny_bind (heldS (s := ⟨hp, g, d, tk0, os⟩) hz hT fun g0 hz0 hs0 => ?_)
  replace hs0 : Heap.SameBut z hp g0 := hs0
  simp only [Bool.false_eq_true, if_false]
  refine wpAny_bind ?_
  rw [← Array.forIn_toList]
  simp only [List.forIn_cons, List.forIn_nil]
  refine wpAny_bind (wpAny_bind (wpAny_holding ?_))
  show wpAny _ _ (Builtin.SmallTypes.nextOrEnd (.ref i1)) _ _ ⟨g0, g, d, tk0, os⟩
  refine nx_item D1 hlt (D1.over st1 hs0 S.zf1) fun x1 p1 tk1 hx1 sn1 hp1 => ?_
  replace hp1 : Heap.SameBut i1 g0 p1 := hp1
  refine wpAny_pure ?_
  refine wpAny_bind (wpAny_bind (wpAny_holding ?_))
  show wpAny _ _ (Builtin.SmallTypes.nextOrEnd (.ref i2)) _ _ ⟨p1, g, d, tk1, os⟩
  refine nx_item D2 hlt (D2.over (D2.over st2 hs0 S.zf2) hp1 S.sep1_2) fun x2 p2 tk2 hx2 sn2 hp2 => ?_
  replace hp2 : Heap.SameBut i2 p1 p2 := hp2
  refine wpAny_pure (wpAny_pure ?_)
  show wpAny _ _ (newTuple [x1, x2] >>= _) _ _ ⟨p2, g, d, tk2, os⟩
  refine wpAny_bind (wpAny_newTuple ?_)
  have hsz : p2.objs.size = hp.objs.size := by rw [hp2.1, hp1.1, hs0.1]
  have hzz : IsZS p2 z TI TO (rawInt T) true := hp2.extBut _ _ S.zi2 (hp1.extBut _ _ S.zi1 (hz0))
  have hkk : ∀ c o, c ≠ z → c ≠ i1 → c ≠ i2 → hp.get? c = some o → p2.get? c = some o := fun c o cz c1 c2 e => hp2.extBut _ _ c2 (hp1.extBut _ _ c1 (hs0.extBut _ _ cz e))
  have hj1 : St1 (i + 1) p2 := D1.over (sn1) hp2 S.sep2_1
  have hj2 : St2 (i + 1) p2 := sn2
  refine wpAny_pure ⟨_, rfl, ?_⟩
  show Q (.ref p2.objs.size) ⟨p2.push { cls := .type "tuple", data := .seq #[x1, x2] }, g, d, tk2, os⟩
  have hq : IsTupOf2 (p2.push { cls := .type "tuple", data := .seq #[x1, x2] }) p2.objs.size x1 x2 := Heap.get?_push_size _ rfl
  have hz4 : (p2.push { cls := .type "tuple", data := .seq #[x1, x2] }).objs.size = p2.objs.size + 1 := Heap.size_push ..
  rw [hsz] at hq hz4 ⊢
  exact hQ x1 x2 _ tk2 hx1 hx2 (Heap.get?_push_of_some _ hzz) (D1.frame _ _ _ hj1 fun b hb o e => Heap.get?_push_of_some _ e) (D2.frame _ _ _ hj2 fun b hb o e => Heap.get?_push_of_some _ e) hq hz4 fun c o cz c1 c2 e => Heap.get?_push_of_some _ (hkk c o cz c1 c2 e)

theorem zS2_end {Q : Fin → Shared → Prop} (hh : A.handled = none) (S : ZipSep2 z TI TO i1 i2 fp1 fp2) (D1 : Draws prog w A i1 fp1 m P1 St1) (D2 : Draws prog w A i2 fp2 m P2 St2)
    (hz : IsZS s.heap z TI TO .none f) (hTI : IsTupOf2 s.heap TI (.ref i1) (.ref i2)) (st1 : St1 m s.heap) (st2 : St2 m s.heap)
    (hE : ∀ h' tk e, (∀ c o, c ≠ z → c ≠ i1 → c ≠ i2 → s.heap.get? c = some o → h'.get? c = some o) → (∃ o, h'.get? e = some o ∧ o.cls = .type "StopIteration") → E (.ref e) { s with heap := h', toks := tk }) :
    wpAny (model prog w) A (Builtin.«zip.__next__» ⟨[.ref z], []⟩) Q E s := by
  obtain ⟨hp, g, d, tk0, os⟩ := s
  show wpAny _ _ (field (.ref z) 2 >>= _) _ _ _
  refine wpAny_bind (wpAny_field hz rfl (x := .bool true) rfl ?_)
  show wpAny _ _ (field (.ref z) 3 >>= _) _ _ _
  refine wpAny_bind (wpAny_field hz rfl (x := .ref TI) rfl ?_)
  refine wpAny_bind (wpAny_seqItems hTI rfl ?_)
  show wpAny _ _ (Builtin.SmallTypes.ownedTupleIsFree (.ref z) >>= _) _ _ _
  refine wpAny_bind ?_
  unfold Builtin.SmallTypes.ownedTupleIsFree
  refine wpAny_bind (wpAny_field hz rfl (x := .none) rfl (wpAny_pure ?_))
  simp only [if_true]
  refine wpAny_bind (wpAny_rule ?_)
  refine wpAny_bind (wpAny_field hz rfl (x := .ref TO) rfl ?_)
  refine wpAny_bind (wpAny_setField_rec hz (by simp) fun g0 hz0 hs0 => ?_)
  replace hz0 : IsZS g0 z TI TO .ellipsis f := hz0
  replace hs0 : Heap.SameBut z hp g0 := hs0
  refine wpAny_bind ?_
  simp only [List.zipIdx_cons, List.zipIdx_nil, List.forIn_cons, List.forIn_nil]
  refine wpAny_bind (wpAny_bind (wpAny_onRaise ?_))
  show wpAny _ _ (Builtin.SmallTypes.nextOrEnd (.ref i1)) _ _ ⟨g0, g, d, tk0, os⟩
  refine nx_done D1 (D1.over st1 hs0 S.zf1) fun p1 hp1 => ?_
  replace hp1 : Heap.ExtBut i1 g0 p1 := hp1
  have hzq : IsZS p1 z TI TO .ellipsis f := hp1 _ _ S.zi1 hz0
  refine wpAny_bind (wpAny_setField_rec (s := ⟨p1, g, d, tk0, os⟩) hzq (by simp) fun g1 _ hs1 => ?_)
  replace hs1 : Heap.SameBut z p1 g1 := hs1
  refine wpAny_bind ?_
  show wpAny _ _ (do
    for (it, j) in (([Value.ref i1, Value.ref i2] : List Value).drop 1).zipIdx 1 do
      if (← Builtin.SmallTypes.nextOrEnd it).isSome then
        rule "zip.__next__.longer"; raiseError "ValueError" _
    rule "zip.__next__.all-ended"; Builtin.SmallTypes.stopIteration) _ _ ⟨g1, g, d, tk0, os⟩
  simp only [List.drop_succ_cons, List.drop_zero, List.zipIdx_cons, List.zipIdx_nil, List.forIn_cons, List.forIn_nil]
  refine wpAny_bind ?_
  refine wpAny_bind (wpAny_bind (nx_done (s := ⟨g1, g, d, tk0, os⟩) D2 (D2.over (overX D2 (D2.over st2 hs0 S.zf2) hp1 S.sep1_2) hs1 S.zf2) fun p2 hp2 => ?_))
  replace hp2 : Heap.ExtBut i2 g1 p2 := hp2
  simp only [Option.isSome_none, Bool.false_eq_true, if_false]
  refine wpAny_pure (wpAny_pure ?_)
  refine wpAny_bind (wpAny_rule (stop_raised (s := ⟨p2, g, d, tk0, os⟩) hh fun h' e hk he => ?_))
  exact hE h' tk0 e (fun c o cz c1 c2 x => hk _ _ (hp2 _ _ c2 (hs1.extBut _ _ cz (hp1 _ _ c1 (hs0.extBut _ _ cz x))))) he

theorem zS2_endH {T : Addr} {oT : Obj} {Q : Fin → Shared → Prop} (hh : A.handled = none) (S : ZipSep2 z TI TO i1 i2 fp1 fp2) (D1 : Draws prog w A i1 fp1 m P1 St1) (D2 : Draws prog w A i2 fp2 m P2 St2)
    (hz : IsZS s.heap z TI TO (rawInt T) f) (hT : s.heap.get? T = some oT) (hTI : IsTupOf2 s.heap TI (.ref i1) (.ref i2)) (st1 : St1 m s.heap) (st2 : St2 m s.heap)
    (hE : ∀ h' tk e, (∀ c o, c ≠ z → c ≠ i1 → c ≠ i2 → s.heap.get? c = some o → h'.get? c = some o) → (∃ o, h'.get? e = some o ∧ o.cls = .type "StopIteration") → E (.ref e) { s with heap := h', toks := tk }) :
    wpAny (model prog w) A (Builtin.«zip.__next__» ⟨[.ref z], []⟩) Q E s := by
  obtain ⟨hp, g, d, tk0, os⟩ := s
  show wpAny _ _ (field (.ref z) 2 >>= _) _ _ _
  refine wpAny_bind (wpAny_field hz rfl (x := .bool true) rfl ?_)
  show wpAny _ _ (field (.ref z) 3 >>= _) _ _ _
  refine wpAny_bind (wpAny_field hz rfl (x := .ref TI) rfl ?_)
  refine wpAny_bind (wpAny_seqItems hTI rfl ?_)
  show wpAny _ _ (Builtin.SmallTypes.ownedTupleIsFree (.ref z) >>= _) _ _ _
  refine wpAny_bind (heldS (s := ⟨hp, g, d, tk0, os⟩) hz hT fun g0 hz0 hs0 => ?_)
  replace hs0 : Heap.SameBut z hp g0 := hs0
  simp only [Bool.false_eq_true, if_false]
  refine wpAny_bind ?_
  rw [← Array.forIn_toList]
  simp only [List.forIn_cons, List.forIn_nil]
  refine wpAny_bind (wpAny_bind (wpAny_holding ?_))
  show wpAny _ _ (Builtin.SmallTypes.nextOrEnd (.ref i1)) _ _ ⟨g0, g, d, tk0, os⟩
  refine nx_done D1 (D1.over st1 hs0 S.zf1) fun p1 hp1 => ?_
  replace hp1 : Heap.ExtBut i1 g0 p1 := hp1
  refine wpAny_bind ?_
  show wpAny _ _ (do
    for (it, j) in (([Value.ref i1, Value.ref i2] : List Value).drop 1).zipIdx 1 do
      if (← Builtin.SmallTypes.nextOrEnd it).isSome then
        rule "zip.__next__.longer"; raiseError "ValueError" _
    rule "zip.__next__.all-ended"; Builtin.SmallTypes.stopIteration) _ _ ⟨p1, g, d, tk0, os⟩
  simp only [List.drop_succ_cons, List.drop_zero, List.zipIdx_cons, List.zipIdx_nil, List.forIn_cons, List.forIn_nil]
  refine wpAny_bind ?_
  refine wpAny_bind (wpAny_bind (nx_done (s := ⟨p1, g, d, tk0, os⟩) D2 (overX D2 (D2.over st2 hs0 S.zf2) hp1 S.sep1_2) fun p2 hp2 => ?_))
  replace hp2 : Heap.ExtBut i2 p1 p2 := hp2
  simp only [Option.isSome_none, Bool.false_eq_true, if_false]
  refine wpAny_pure (wpAny_pure ?_)
  refine wpAny_bind (wpAny_rule (stop_raised (s := ⟨p2, g, d, tk0, os⟩) hh fun h' e hk he => ?_))
  exact hE h' tk0 e (fun c o cz c1 c2 x => hk _ _ (hp2 _ _ c2 (hp1 _ _ c1 (hs0.extBut _ _ cz x)))) he

end
section
variable {prog : Program} {w : World} {A : Around} {E : Value → Shared → Prop} {s : Shared} {z TI TO i1 i2 i3 : Addr} {fp1 fp2 fp3 : List Addr} {m i : Nat} {P1 P2 P3 : Nat → Value → Prop} {St1 St2 St3 : Nat → Heap → Prop} {a1 a2 a3 : Value} {f : Bool}
theorem zS3_item {Q : Value → Shared → Prop} (S : ZipSep3 z TI TO i1 i2 i3 fp1 fp2 fp3) (D1 : Draws prog w A i1 fp1 m P1 St1) (D2 : Draws prog w A i2 fp2 m P2 St2) (D3 : Draws prog w A i3 fp3 m P3 St3)
    (hz : IsZS s.heap z TI TO .none f) (hTI : IsTupOf3 s.heap TI (.ref i1) (.ref i2) (.ref i3)) (hTO : IsTupOf3 s.heap TO a1 a2 a3) (st1 : St1 i s.heap) (st2 : St2 i s.heap) (st3 : St3 i s.heap) (hlt : i < m)
    (hQ : ∀ x1 x2 x3 h' tk, P1 i x1 → P2 i x2 → P3 i x3 → IsZS h' z TI TO (rawInt s.heap.objs.size) false → IsTupOf3 h' TO x1 x2 x3 → St1 (i + 1) h' → St2 (i + 1) h' → St3 (i + 1) h' → IsTupOf3 h' s.heap.objs.size x1 x2 x3 → h'.objs.size = s.heap.objs.size + 1 →
      (∀ c o, c ≠ z → c ≠ TO → c ≠ i1 → c ≠ i2 → c ≠ i3 → s.heap.get? c = some o → h'.get? c = some o) → Q (.ref s.heap.objs.size) { s with heap := h', toks := tk }) :
    wpAny (model prog w) A (Builtin.«zip.__next__» ⟨[.ref z], []⟩) (fun fin s' => ∃ v, fin = .done (.ret v) ∧ Q v s') E s := by
  obtain ⟨hp, g, d, tk0, os⟩ := s
  show wpAny _ _ (field (.ref z) 2 >>= _) _ _ _
  refine wpAny_bind (wpAny_field hz rfl (x := .bool true) rfl ?_)
  show wpAny _ _ (field (.ref z) 3 >>= _) _ _ _
  refine wpAny_bind (wpAny_field hz rfl (x := .ref TI) rfl ?_)
  refine wpAny_bind (wpAny_seqItems hTI rfl ?_)
  show wpAny _ _ (Builtin.SmallTypes.ownedTupleIsFree (.ref z) >>= _) _ _ _
  refine wpAny_bind ?_
  unfold Builtin.SmallTypes.ownedTupleIsFree
  refine wpAny_bind (wpAny_field hz rfl (x := .none) rfl (wpAny_pure ?_))
  simp only [if_true]
  refine wpAny_bind (wpAny_rule ?_)
  refine wpAny_bind (wpAny_field hz rfl (x := .ref TO) rfl ?_)
  refine wpAny_bind (wpAny_setField_rec hz (by simp) fun g0 hz0 hs0 => ?_)
  replace hz0 : IsZS g0 z TI TO .ellipsis f := hz0
  replace hs0 : Heap.SameBut z hp g0 := hs0
  refine wpAny_bind ?_
  simp only [List.zipIdx_cons, List.zipIdx_nil, List.forIn_cons, List.forIn_nil]
  refine wpAny_bind (wpAny_bind (wpAny_onRaise ?_))
  show wpAny _ _ (Builtin.SmallTypes.nextOrEnd (.ref i1)) _ _ ⟨g0, g, d, tk0, os⟩
  refine nx_item D1 hlt (D1.over st1 hs0 S.zf1) fun x1 p1 tk1 hx1 sn1 hp1 => ?_
  replace hp1 : Heap.SameBut i1 g0 p1 := hp1
  have hU1 : IsTupOf3 p1 TO a1 a2 a3 := hp1.extBut _ _ S.Ti1 (hs0.extBut _ _ S.TOz hTO)
  refine wpAny_bind (wpAny_seqItems (s := ⟨p1, g, d, tk1, os⟩) hU1 rfl ?_)
  refine wpAny_bind (updateSeq_IsTupOf3 (s := ⟨p1, g, d, tk1, os⟩) hU1 fun g1 hT1 hs1 => ?_)
  replace hT1 : IsTupOf3 g1 TO x1 a2 a3 := hT1
  replace hs1 : Heap.SameBut TO p1 g1 := hs1
  refine wpAny_bind (wpAny_letGo (wpAny_pure ?_))
  refine wpAny_bind (wpAny_bind (wpAny_onRaise ?_))
  show wpAny _ _ (Builtin.SmallTypes.nextOrEnd (.ref i2)) _ _ ⟨g1, g, d, tk1, os⟩
  refine nx_item D2 hlt (D2.over (D2.over (D2.over st2 hs0 S.zf2) hp1 S.sep1_2) hs1 S.Tf2) fun x2 p2 tk2 hx2 sn2 hp2 => ?_
  replace hp2 : Heap.SameBut i2 g1 p2 := hp2
  have hU2 : IsTupOf3 p2 TO x1 a2 a3 := hp2.extBut _ _ S.Ti2 hT1
  refine wpAny_bind (wpAny_seqItems (s := ⟨p2, g, d, tk2, os⟩) hU2 rfl ?_)
  refine wpAny_bind (updateSeq_IsTupOf3 (s := ⟨p2, g, d, tk2, os⟩) hU2 fun g2 hT2 hs2 => ?_)
  replace hT2 : IsTupOf3 g2 TO x1 x2 a3 := hT2
  replace hs2 : Heap.SameBut TO p2 g2 := hs2
  refine wpAny_bind (wpAny_letGo (wpAny_pure ?_))
  refine wpAny_bind (wpAny_bind (wpAny_onRaise ?_))
  show wpAny _ _ (Builtin.SmallTypes.nextOrEnd (.ref i3)) _ _ ⟨g2, g, d, tk2, os⟩
  refine nx_item D3 hlt (D3.over (D3.over (D3.over (D3.over (D3.over st3 hs0 S.zf3) hp1 S.sep1_3) hs1 S.Tf3) hp2 S.sep2_3) hs2 S.Tf3) fun x3 p3 tk3 hx3 sn3 hp3 => ?_
  replace hp3 : Heap.SameBut i3 g2 p3 := hp3
  have hU3 : IsTupOf3 p3 TO x1 x2 a3 := hp3.extBut _ _ S.Ti3 hT2
  refine wpAny_bind (wpAny_seqItems (s := ⟨p3, g, d, tk3, os⟩) hU3 rfl ?_)
  refine wpAny_bind (updateSeq_IsTupOf3 (s := ⟨p3, g, d, tk3, os⟩) hU3 fun g3 hT3 hs3 => ?_)
  replace hT3 : IsTupOf3 g3 TO x1 x2 x3 := hT3
  replace hs3 : Heap.SameBut TO p3 g3 := hs3
  refine wpAny_bind (wpAny_letGo (wpAny_pure (wpAny_pure ?_)))
  refine wpAny_bind (wpAny_seqItems (s := ⟨g3, g, d, tk3, os⟩) hT3 rfl ?_)
  refine wpAny_bind (wpAny_newTuple ?_)
  have hsz : g3.objs.size = hp.objs.size := by rw [hs3.1, hp3.1, hs2.1, hp2.1, hs1.1, hp1.1, hs0.1]
  have hzz : IsZS g3 z TI TO .ellipsis f := hs3.extBut _ _ S.TOz.symm (hp3.extBut _ _ S.zi3 (hs2.extBut _ _ S.TOz.symm (hp2.extBut _ _ S.zi2 (hs1.extBut _ _ S.TOz.symm (hp1.extBut _ _ S.zi1 (hz0))))))
  have hkk : ∀ c o, c ≠ z → c ≠ TO → c ≠ i1 → c ≠ i2 → c ≠ i3 → hp.get? c = some o → g3.get? c = some o := fun c o cz cT c1 c2 c3 e => hs3.extBut _ _ cT (hp3.extBut _ _ c3 (hs2.extBut _ _ cT (hp2.extBut _ _ c2 (hs1.extBut _ _ cT (hp1.extBut _ _ c1 (hs0.extBut _ _ cz e))))))
  have hj1 : St1 (i + 1) g3 := D1.over (D1.over (D1.over (D1.over (D1.over sn1 hs1 S.Tf1) hp2 S.sep2_1) hs2 S.Tf1) hp3 S.sep3_1) hs3 S.Tf1
  have hj2 : St2 (i + 1) g3 := D2.over (D2.over (D2.over sn2 hs2 S.Tf2) hp3 S.sep3_2) hs3 S.Tf2
  have hj3 : St3 (i + 1) g3 := D3.over sn3 hs3 S.Tf3
  have hzlt : z < g3.objs.size := Heap.lt_size hzz
  show wpAny _ _ (Builtin.SmallTypes.ownedTupleHandOut (.ref z) (.ref g3.objs.size) >>= _) _ _ ⟨g3.push { cls := .type "tuple", data := .seq #[x1, x2, x3] }, g, d, tk3, os⟩
  refine wpAny_bind ?_
  unfold Builtin.SmallTypes.ownedTupleHandOut
  have hz6 : IsZS (g3.push { cls := .type "tuple", data := .seq #[x1, x2, x3] }) z TI TO .ellipsis f := Heap.get?_push_of_some _ hzz
  refine wpAny_bind (wpAny_setField_rec hz6 (by simp) fun h7 hz7 hs7 => ?_)
  replace hz7 : IsZS h7 z TI TO (rawInt g3.objs.size) f := hz7
  refine wpAny_setField_rec hz7 (by simp) fun h8 hz8 hs8 => ?_
  replace hz8 : IsZS h8 z TI TO (rawInt g3.objs.size) false := hz8
  replace hs7 : Heap.SameBut z (g3.push { cls := .type "tuple", data := .seq #[x1, x2, x3] }) h7 := hs7
  replace hs8 : Heap.SameBut z h7 h8 := hs8
  have up : ∀ c o, c ≠ z → g3.get? c = some o → h8.get? c = some o := fun c o c1 e => hs8.extBut _ _ c1 (hs7.extBut _ _ c1 (Heap.get?_push_of_some _ e))
  have hT8 : IsTupOf3 h8 g3.objs.size x1 x2 x3 := hs8.extBut _ _ (Nat.ne_of_gt hzlt) (hs7.extBut _ _ (Nat.ne_of_gt hzlt) (Heap.get?_push_size _ rfl))
  have hz9 : h8.objs.size = g3.objs.size + 1 := by rw [hs8.1, hs7.1, Heap.size_push]
  rw [hsz] at hz8 hT8 hz9
  refine wpAny_pure ⟨_, rfl, ?_⟩
  show Q (.ref g3.objs.size) ⟨h8, g, d, tk3, os⟩
  rw [hsz]
  exact hQ x1 x2 x3 h8 tk3 hx1 hx2 hx3 hz8 (up _ _ S.TOz hT3) (D1.frame _ _ _ hj1 fun b hb o e => up b o (fun q => S.zf1 (q ▸ hb)) e) (D2.frame _ _ _ hj2 fun b hb o e => up b o (fun q => S.zf2 (q ▸ hb)) e) (D3.frame _ _ _ hj3 fun b hb o e => up b o (fun q => S.zf3 (q ▸ hb)) e) hT8 hz9 fun c o cz cT c1 c2 c3 e => up c o cz (hkk c o cz cT c1 c2 c3 e)

theorem zS3_itemH {T : Addr} {oT : Obj} {Q : Value → Shared → Prop} (S : ZipSep3 z TI TO i1 i2 i3 fp1 fp2 fp3) (D1 : Draws prog w A i1 fp1 m P1 St1) (D2 : Draws prog w A i2 fp2 m P2 St2) (D3 : Draws prog w A i3 fp3 m P3 St3)
    (hz : IsZS s.heap z TI TO (rawInt T) f) (hT : s.heap.get? T = some oT) (hTI : IsTupOf3 s.heap TI (.ref i1) (.ref i2) (.ref i3)) (st1 : St1 i s.heap) (st2 : St2 i s.heap) (st3 : St3 i s.heap) (hlt : i < m)
    (hQ : ∀ x1 x2 x3 h' tk, P1 i x1 → P2 i x2 → P3 i x3 → IsZS h' z TI TO (rawInt T) true → St1 (i + 1) h' → St2 (i + 1) h' → St3 (i + 1) h' → IsTupOf3 h' s.heap.objs.size x1 x2 x3 → h'.objs.size = s.heap.objs.size + 1 →
      (∀ c o, c ≠ z → c ≠ i1 → c ≠ i2 → c ≠ i3 → s.heap.get? c = some o → h'.get? c = some o) → Q (.ref s.heap.objs.size) { s with heap := h', toks := tk }) :
    wpAny (model prog w) A (Builtin.«zip.__next__» ⟨[.ref z], []⟩) (fun fin s' => ∃ v, fin = .done (.ret v) ∧ Q v s') E s := by
  obtain ⟨hp, g, d, tk0, os⟩ := s
  show wpAny _ _ (field (.ref z) 2 >>= _) _ _ _
  refine wpAny_bind (wpAny_field hz rfl (x := .bool true) rfl ?_)
  show wpAny _ _ (field (.ref z) 3 >>= _) _ _ _
  refine wpAny_bind (wpAny_field hz rfl (x := .ref TI) rfl ?_)
  refine wpAny_bind (wpAny_seqItems hTI rfl ?_)
  show wpAny _ _ (Builtin.SmallTypes.ownedTupleIsFree (.ref z) >>= _) _ _ _
  refine wpAny_bind (heldS (s := ⟨hp, g, d, tk0, os⟩) hz hT fun g0 hz0 hs0 => ?_)
  replace hs0 : Heap.SameBut z hp g0 := hs0
  simp only [Bool.false_eq_true, if_false]
  refine wpAny_bind ?_
  rw [← Array.forIn_toList]
  simp only [List.forIn_cons, List.forIn_nil]
  refine wpAny_bind (wpAny_bind (wpAny_holding ?_))
  show wpAny _ _ (Builtin.SmallTypes.nextOrEnd (.ref i1)) _ _ ⟨g0, g, d, tk0, os⟩
  refine nx_item D1 hlt (D1.over st1 hs0 S.zf1) fun x1 p1 tk1 hx1 sn1 hp1 => ?_
  replace hp1 : Heap.SameBut i1 g0 p1 := hp1
  refine wpAny_pure ?_
  refine wpAny_bind (wpAny_bind (wpAny_holding ?_))
  show wpAny _ _ (Builtin.SmallTypes.nextOrEnd (.ref i2)) _ _ ⟨p1, g, d, tk1, os⟩
  refine nx_item D2 hlt (D2.over (D2.over st2 hs0 S.zf2) hp1 S.sep1_2) fun x2 p2 tk2 hx2 sn2 hp2 => ?_
  replace hp2 : Heap.SameBut i2 p1 p2 := hp2
  refine wpAny_pure ?_
  refine wpAny_bind (wpAny_bind (wpAny_holding ?_))
  show wpAny _ _ (Builtin.SmallTypes.nextOrEnd (.ref i3)) _ _ ⟨p2, g, d, tk2, os⟩
  refine nx_item D3 hlt (D3.over (D3.over (D3.over st3 hs0 S.zf3) hp1 S.sep1_3) hp2 S.sep2_3) fun x3 p3 tk3 hx3 sn3 hp3 => ?_
  replace hp3 : Heap.SameBut i3 p2 p3 := hp3
  refine wpAny_pure (wpAny_pure ?_)
  show wpAny _ _ (newTuple [x1, x2, x3] >>= _) _ _ ⟨p3, g, d, tk3, os⟩
  refine wpAny_bind (wpAny_newTuple ?_)
  have hsz : p3.objs.size = hp.objs.size := by rw [hp3.1, hp2.1, hp1.1, hs0.1]
  have hzz : IsZS p3 z TI TO (rawInt T) true := hp3.extBut _ _ S.zi3 (hp2.extBut _ _ S.zi2 (hp1.extBut _ _ S.zi1 (hz0)))
  have hkk : ∀ c o, c ≠ z → c ≠ i1 → c ≠ i2 → c ≠ i3 → hp.get? c = some o → p3.get? c = some o := fun c o cz c1 c2 c3 e => hp3.extBut _ _ c3 (hp2.extBut _ _ c2 (hp1.extBut _ _ c1 (hs0.extBut _ _ cz e)))
  have hj1 : St1 (i + 1) p3 := D1.over (D1.over (sn1) hp2 S.sep2_1) hp3 S.sep3_1
  have hj2 : St2 (i + 1) p3 := D2.over (sn2) hp3 S.sep3_2
  have hj3 : St3 (i + 1) p3 := sn3
  refine wpAny_pure ⟨_, rfl, ?_⟩
  show Q (.ref p3.objs.size) ⟨p3.push { cls := .type "tuple", data := .seq #[x1, x2, x3] }, g, d, tk3, os⟩
  have hq : IsTupOf3 (p3.push { cls := .type "tuple", data := .seq #[x1, x2, x3] }) p3.objs.size x1 x2 x3 := Heap.get?_push_size _ rfl
  have hz4 : (p3.push { cls := .type "tuple", data := .seq #[x1, x2, x3] }).objs.size = p3.objs.size + 1 := Heap.size_push ..
  rw [hsz] at hq hz4 ⊢
  exact hQ x1 x2 x3 _ tk3 hx1 hx2 hx3 (Heap.get?_push_of_some _ hzz) (D1.frame _ _ _ hj1 fun b hb o e => Heap.get?_push_of_some _ e) (D2.frame _ _ _ hj2 fun b hb o e => Heap.get?_push_of_some _ e) (D3.frame _ _ _ hj3 fun b hb o e => Heap.get?_push_of_some _ e) hq hz4 fun c o cz c1 c2 c3 e => Heap.get?_push_of_some _ (hkk c o cz c1 c2 c3 e)

theorem zS3_end {Q : Fin → Shared → Prop} (hh : A.handled = none) (S : ZipSep3 z TI TO i1 i2 i3 fp1 fp2 fp3) (D1 : Draws prog w A i1 fp1 m P1 St1) (D2 : Draws prog w A i2 fp2 m P2 St2) (D3 : Draws prog w A i3 fp3 m P3 St3)
    (hz : IsZS s.heap z TI TO .none f) (hTI : IsTupOf3 s.heap TI (.ref i1) (.ref i2) (.ref i3)) (st1 : St1 m s.heap) (st2 : St2 m s.heap) (st3 : St3 m s.heap)
    (hE : ∀ h' tk e, (∀ c o, c ≠ z → c ≠ i1 → c ≠ i2 → c ≠ i3 → s.heap.get? c = some o → h'.get? c = some o) → (∃ o, h'.get? e = some o ∧ o.cls = .type "StopIteration") → E (.ref e) { s with heap := h', toks := tk }) :
    wpAny (model prog w) A (Builtin.«zip.__next__» ⟨[.ref z], []⟩) Q E s := by
  obtain ⟨hp, g, d, tk0, os⟩ := s
  show wpAny _ _ (field (.ref z) 2 >>= _) _ _ _
  refine wpAny_bind (wpAny_field hz rfl (x := .bool true) rfl ?_)
  show wpAny _ _ (field (.ref z) 3 >>= _) _ _ _
  refine wpAny_bind (wpAny_field hz rfl (x := .ref TI) rfl ?_)
  refine wpAny_bind (wpAny_seqItems hTI rfl ?_)
  show wpAny _ _ (Builtin.SmallTypes.ownedTupleIsFree (.ref z) >>= _) _ _ _
  refine wpAny_bind ?_
  unfold Builtin.SmallTypes.ownedTupleIsFree
  refine wpAny_bind (wpAny_field hz rfl (x := .none) rfl (wpAny_pure ?_))
  simp only [if_true]
  refine wpAny_bind (wpAny_rule ?_)
  refine wpAny_bind (wpAny_field hz rfl (x := .ref TO) rfl ?_)
  refine wpAny_bind (wpAny_setField_rec hz (by simp) fun g0 hz0 hs0 => ?_)
  replace hz0 : IsZS g0 z TI TO .ellipsis f := hz0
  replace hs0 : Heap.SameBut z hp g0 := hs0
  refine wpAny_bind ?_
  simp only [List.zipIdx_cons, List.zipIdx_nil, List.forIn_cons, List.forIn_nil]
  refine wpAny_bind (wpAny_bind (wpAny_onRaise ?_))
  show wpAny _ _ (Builtin.SmallTypes.nextOrEnd (.ref i1)) _ _ ⟨g0, g, d, tk0, os⟩
  refine nx_done D1 (D1.over st1 hs0 S.zf1) fun p1 hp1 => ?_
  replace hp1 : Heap.ExtBut i1 g0 p1 := hp1
  have hzq : IsZS p1 z TI TO .ellipsis f := hp1 _ _ S.zi1 hz0
  refine wpAny_bind (wpAny_setField_rec (s := ⟨p1, g, d, tk0, os⟩) hzq (by simp) fun g1 _ hs1 => ?_)
  replace hs1 : Heap.SameBut z p1 g1 := hs1
  refine wpAny_bind ?_
  show wpAny _ _ (do
    for (it, j) in (([Value.ref i1, Value.ref i2, Value.ref i3] : List Value).drop 1).zipIdx 1 do
      if (← Builtin.SmallTypes.nextOrEnd it).isSome then
        rule "zip.__next__.longer"; raiseError "ValueError" _
    rule "zip.__next__.all-ended"; Builtin.SmallTypes.stopIteration) _ _ ⟨g1, g, d, tk0, os⟩
  simp only [List.drop_succ_cons, List.drop_zero, List.zipIdx_cons, List.zipIdx_nil, List.forIn_cons, List.forIn_nil]
  refine wpAny_bind ?_
  refine wpAny_bind (wpAny_bind (nx_done (s := ⟨g1, g, d, tk0, os⟩) D2 (D2.over (overX D2 (D2.over st2 hs0 S.zf2) hp1 S.sep1_2) hs1 S.zf2) fun p2 hp2 => ?_))
  replace hp2 : Heap.ExtBut i2 g1 p2 := hp2
  simp only [Option.isSome_none, Bool.false_eq_true, if_false]
  refine wpAny_pure ?_
  refine wpAny_bind (wpAny_bind (nx_done (s := ⟨p2, g, d, tk0, os⟩) D3 (overX D3 (D3.over (overX D3 (D3.over st3 hs0 S.zf3) hp1 S.sep1_3) hs1 S.zf3) hp2 S.sep2_3) fun p3 hp3 => ?_))
  replace hp3 : Heap.ExtBut i3 p2 p3 := hp3
  simp only [Option.isSome_none, Bool.false_eq_true, if_false]
  refine wpAny_pure (wpAny_pure ?_)
  refine wpAny_bind (wpAny_rule (stop_raised (s := ⟨p3, g, d, tk0, os⟩) hh fun h' e hk he => ?_))
  exact hE h' tk0 e (fun c o cz c1 c2 c3 x => hk _ _ (hp3 _ _ c3 (hp2 _ _ c2 (hs1.extBut _ _ cz (hp1 _ _ c1 (hs0.extBut _ _ cz x)))))) he

theorem zS3_endH {T : Addr} {oT : Obj} {Q : Fin → Shared → Prop} (hh : A.handled = none) (S : ZipSep3 z TI TO i1 i2 i3 fp1 fp2 fp3) (D1 : Draws prog w A i1 fp1 m P1 St1) (D2 : Draws prog w A i2 fp2 m P2 St2) (D3 : Draws prog w A i3 fp3 m P3 St3)
    (hz : IsZS s.heap z TI TO (rawInt T) f) (hT : s.heap.get? T = some oT) (hTI : IsTupOf3 s.heap TI (.ref i1) (.ref i2) (.ref i3)) (st1 : St1 m s.heap) (st2 : St2 m s.heap) (st3 : St3 m s.heap)
    (hE : ∀ h' tk e, (∀ c o, c ≠ z → c ≠ i1 → c ≠ i2 → c ≠ i3 → s.heap.get? c = some o → h'.get? c = some o) → (∃ o, h'.get? e = some o ∧ o.cls = .type "StopIteration") → E (.ref e) { s with heap := h', toks := tk }) :
    wpAny (model prog w) A (Builtin.«zip.__next__» ⟨[.ref z], []⟩) Q E s := by
  obtain ⟨hp, g, d, tk0, os⟩ := s
  show wpAny _ _ (field (.ref z) 2 >>= _) _ _ _
  refine wpAny_bind (wpAny_field hz rfl (x := .bool true) rfl ?_)
  show wpAny _ _ (field (.ref z) 3 >>= _) _ _ _
  refine wpAny_bind (wpAny_field hz rfl (x := .ref TI) rfl ?_)
  refine wpAny_bind (wpAny_seqItems hTI rfl ?_)
  show wpAny _ _ (Builtin.SmallTypes.ownedTupleIsFree (.ref z) >>= _) _ _ _
  refine wpAny_bind (heldS (s := ⟨hp, g, d, tk0, os⟩) hz hT fun g0 hz0 hs0 => ?_)
  replace hs0 : Heap.SameBut z hp g0 := hs0
  simp only [Bool.false_eq_true, if_false]
  refine wpAny_bind ?_
  rw [← Array.forIn_toList]
  simp only [List.forIn_cons, List.forIn_nil]
  refine wpAny_bind (wpAny_bind (wpAny_holding ?_))
  show wpAny _ _ (Builtin.SmallTypes.nextOrEnd (.ref i1)) _ _ ⟨g0, g, d, tk0, os⟩
  refine nx_done D1 (D1.over st1 hs0 S.zf1) fun p1 hp1 => ?_
  replace hp1 : Heap.ExtBut i1 g0 p1 := hp1
  refine wpAny_bind ?_
  show wpAny _ _ (do
    for (it, j) in (([Value.ref i1, Value.ref i2, Value.ref i3] : List Value).drop 1).zipIdx 1 do
      if (← Builtin.SmallTypes.nextOrEnd it).isSome then
        rule "zip.__next__.longer"; raiseError "ValueError" _
    rule "zip.__next__.all-ended"; Builtin.SmallTypes.stopIteration) _ _ ⟨p1, g, d, tk0, os⟩
  simp only [List.drop_succ_cons, List.drop_zero, List.zipIdx_cons, List.zipIdx_nil, List.forIn_cons, List.forIn_nil]
  refine wpAny_bind ?_
  refine wpAny_bind (wpAny_bind (nx_done (s := ⟨p1, g, d, tk0, os⟩) D2 (overX D2 (D2.over st2 hs0 S.zf2) hp1 S.sep1_2) fun p2 hp2 => ?_))
  replace hp2 : Heap.ExtBut i2 p1 p2 := hp2
  simp only [Option.isSome_none, Bool.false_eq_true, if_false]
  refine wpAny_pure ?_
  refine wpAny_bind (wpAny_bind (nx_done (s := ⟨p2, g, d, tk0, os⟩) D3 (overX D3 (overX D3 (D3.over st3 hs0 S.zf3) hp1 S.sep1_3) hp2 S.sep2_3) fun p3 hp3 => ?_))
  replace hp3 : Heap.ExtBut i3 p2 p3 := hp3
  simp only [Option.isSome_none, Bool.false_eq_true, if_false]
  refine wpAny_pure (wpAny_pure ?_)
  refine wpAny_bind (wpAny_rule (stop_raised (s := ⟨p3, g, d, tk0, os⟩) hh fun h' e hk he => ?_))
  exact hE h' tk0 e (fun c o cz c1 c2 c3 x => hk _ _ (hp3 _ _ c3 (hp2 _ _ c2 (hp1 _ _ c1 (hs0.extBut _ _ cz x))))) he

end
/-- a zip, strict: false -/
abbrev IsZP (h : Heap) (z TI TO : Addr) (f0 : Value) (f : Bool) : Prop := h.get? z = some { cls := .type "zip", dict := none, data := .fields #[f0, .bool f, .bool false, .ref TI, .ref TO], slots := #[] }
section
variable {prog : Program} {w : World} {A : Around} {E : Value → Shared → Prop} {s : Shared}
theorem heldP {z TI TO T : Addr} {f : Bool} {oT : Obj} {Q : Bool → Shared → Prop} (hz : IsZP s.heap z TI TO (rawInt T) f) (hT : s.heap.get? T = some oT)
    (h : ∀ h', IsZP h' z TI TO (rawInt T) true → Heap.SameBut z s.heap h' → Q false { s with heap := h' }) : wpAny (model prog w) A (Builtin.SmallTypes.ownedTupleIsFree (.ref z)) Q E s := by
  unfold Builtin.SmallTypes.ownedTupleIsFree
  refine wpAny_bind (wpAny_field hz rfl (x := rawInt T) rfl ?_)
  show wpAny _ _ (loadIfAlive ((T : Int).toNat) >>= _) _ _ _
  rw [Int.toNat_natCast]
  refine wpAny_bind (PySem.W.kdx_alive hT ?_)
  simp only [Option.isNone_some, Bool.false_eq_true, if_false]
  refine wpAny_bind (wpAny_field hz rfl (x := .bool f) rfl ?_)
  cases f with
  | true =>
    rw [if_neg (show ¬ ((Value.bool true != Value.bool true) = true) from Bool.false_ne_true)]
    exact wpAny_pure (h s.heap hz (Heap.SameBut.refl _ _))
  | false =>
    rw [if_pos (show (Value.bool false != Value.bool true) = true from rfl)]
    exact wpAny_bind (wpAny_setField_rec hz (by simp) fun h₁ hz₁ hs₁ => wpAny_pure (h h₁ hz₁ hs₁))
theorem goP {elts : List Expr} {x1 : Nat} {pos : Pos} {z TI TO T : Addr} {f : Bool} {Q : Unit → Shared → Prop} (hz : IsZP s.heap z TI TO (rawInt T) f) (hQ : ∀ h', IsZP h' z TI TO .none f → Heap.SameBut z s.heap h' → Q () { s with heap := h' }) :
    wpAny (model prog w) A (letOwnedTupleGo (.Tuple elts x1 pos) (.ref z) (.ref T)) Q E s := by
  unfold letOwnedTupleGo
  refine wpAny_bind (wpAny_load hz ?_)
  show wpAny _ _ (if (["enumerate", "zip", "dict_itemiterator", "dict_reverseitemiterator", "odict_iterator", "itertools.zip_longest", "itertools.pairwise"].contains "zip" &&
      (#[rawInt T, .bool f, .bool false, .ref TI, .ref TO] : Array Value)[0]? == some (rawInt T)) = true then _ else _) Q E s
  rw [if_pos (by simp)]
  refine wpAny_bind (wpAny_rule ?_)
  show wpAny _ _ (setField (.ref z) 0 .none) Q E s
  exact wpAny_setField_rec hz (by simp) fun h' hz' hs' => hQ h' hz' hs'
theorem iterP {z TI TO : Addr} {f0 : Value} {f : Bool} {Q : Value → Shared → Prop} (hz : IsZP s.heap z TI TO f0 f) (h : Q (.ref z) s) : wpAny (model prog w) A (pyIter (.ref z)) Q E s := by
  have hT : s.TypeIs (.ref z) "zip" := ⟨_, hz, rfl⟩
  refine wpAny_pyIter_slot hT F.slot_zip_iter (wpAny_call_entry F.slot_zip_iter hT F.entry_zip_iter ?_ (F.args_zip_iter_1 _))
  show wpAny _ _ (ret (.ref z)) _ _ s
  exact wpAny_pure ⟨_, rfl, "zip", _, hT, F.slot_zip_next.lookup, h⟩
end

section
variable {prog : Program} {w : World} {A : Around} {E : Value → Shared → Prop} {s : Shared} {z TI TO i1 i2 : Addr} {fp1 fp2 : List Addr} {m i : Nat} {P1 P2 : Nat → Value → Prop} {St1 St2 : Nat → Heap → Prop} {a1 a2 : Value} {f : Bool}
theorem zP2_item {Q : Value → Shared → Prop} (S : ZipSep2 z TI TO i1 i2 fp1 fp2) (D1 : Draws prog w A i1 fp1 m P1 St1) (D2 : Draws prog w A i2 fp2 m P2 St2)
    (hz : IsZP s.heap z TI TO .none f) (hTI : IsTupOf2 s.heap TI (.ref i1) (.ref i2)) (hTO : IsTupOf2 s.heap TO a1 a2) (st1 : St1 i s.heap) (st2 : St2 i s.heap) (hlt : i < m)
    (hQ : ∀ x1 x2 h' tk, P1 i x1 → P2 i x2 → IsZP h' z TI TO (rawInt s.heap.objs.size) false → IsTupOf2 h' TO x1 x2 → St1 (i + 1) h' → St2 (i + 1) h' → IsTupOf2 h' s.heap.objs.size x1 x2 → h'.objs.size = s.heap.objs.size + 1 →
      (∀ c o, c ≠ z → c ≠ TO → c ≠ i1 → c ≠ i2 → s.heap.get? c = some o → h'.get? c = some o) → Q (.ref s.heap.objs.size) { s with heap := h', toks := tk }) :
    wpAny (model prog w) A (Builtin.«zip.__next__» ⟨[.ref z], []⟩) (fun fin s' => ∃ v, fin = .done (.ret v) ∧ Q v s') E s := by
  obtain ⟨hp, g, d, tk0, os⟩ := s
  show wpAny _ _ (field (.ref z) 2 >>= _) _ _ _
  refine wpAny_bind (wpAny_field hz rfl (x := .bool false) rfl ?_)
  show wpAny _ _ (field (.ref z) 3 >>= _) _ _ _
  refine wpAny_bind (wpAny_field hz rfl (x := .ref TI) rfl ?_)
  refine wpAny_bind (wpAny_seqItems hTI rfl ?_)
  show wpAny _ _ (Builtin.SmallTypes.ownedTupleIsFree (.ref z) >>= _) _ _ _
  refine wpAny_bind ?_
  unfold Builtin.SmallTypes.ownedTupleIsFree
  refine wpAny_bind (wpAny_field hz rfl (x := .none) rfl (wpAny_pure ?_))
  simp only [if_true]
  refine wpAny_bind (wpAny_rule ?_)
  refine wpAny_bind (wpAny_field hz rfl (x := .ref TO) rfl ?_)
  refine wpAny_bind (wpAny_setField_rec hz (by simp) fun g0 hz0 hs0 => ?_)
  replace hz0 : IsZP g0 z TI TO .ellipsis f := hz0
  replace hs0 : Heap.SameBut z hp g0 := hs0
  refine wpAny_bind ?_
  simp only [List.zipIdx_cons, List.zipIdx_nil, List.forIn_cons, List.forIn_nil]
  refine wpAny_bind (wpAny_bind (wpAny_onRaise ?_))
  show wpAny _ _ (Builtin.SmallTypes.nextOf (.ref i1) >>= _) _ _ ⟨g0, g, d, tk0, os⟩
  refine wpAny_bind (D1.item i _ _ _ hlt (D1.over st1 hs0 S.zf1) fun x1 p1 tk1 hx1 sn1 hp1 => wpAny_pure ?_)
  replace hp1 : Heap.SameBut i1 g0 p1 := hp1
  have hU1 : IsTupOf2 p1 TO a1 a2 := hp1.extBut _ _ S.Ti1 (hs0.extBut _ _ S.TOz hTO)
  refine wpAny_bind (wpAny_seqItems (s := ⟨p1, g, d, tk1, os⟩) hU1 rfl ?_)
  refine wpAny_bind (updateSeq_IsTupOf2 (s := ⟨p1, g, d, tk1, os⟩) hU1 fun g1 hT1 hs1 => ?_)
  replace hT1 : IsTupOf2 g1 TO x1 a2 := hT1
  replace hs1 : Heap.SameBut TO p1 g1 := hs1
  refine wpAny_bind (wpAny_letGo (wpAny_pure ?_))
  refine wpAny_bind (wpAny_bind (wpAny_onRaise ?_))
  show wpAny _ _ (Builtin.SmallTypes.nextOf (.ref i2) >>= _) _ _ ⟨g1, g, d, tk1, os⟩
  refine wpAny_bind (D2.item i _ _ _ hlt (D2.over (D2.over (D2.over st2 hs0 S.zf2) hp1 S.sep1_2) hs1 S.Tf2) fun x2 p2 tk2 hx2 sn2 hp2 => wpAny_pure ?_)
  replace hp2 : Heap.SameBut i2 g1 p2 := hp2
  have hU2 : IsTupOf2 p2 TO x1 a2 := hp2.extBut _ _ S.Ti2 hT1
  refine wpAny_bind (wpAny_seqItems (s := ⟨p2, g, d, tk2, os⟩) hU2 rfl ?_)
  refine wpAny_bind (updateSeq_IsTupOf2 (s := ⟨p2, g, d, tk2, os⟩) hU2 fun g2 hT2 hs2 => ?_)
  replace hT2 : IsTupOf2 g2 TO x1 x2 := hT2
  replace hs2 : Heap.SameBut TO p2 g2 := hs2
  refine wpAny_bind (wpAny_letGo (wpAny_pure (wpAny_pure ?_)))
  refine wpAny_bind (wpAny_seqItems (s := ⟨g2, g, d, tk2, os⟩) hT2 rfl ?_)
  refine wpAny_bind (wpAny_newTuple ?_)
  have hsz : g2.objs.size = hp.objs.size := by rw [hs2.1, hp2.1, hs1.1, hp1.1, hs0.1]
  have hzz : IsZP g2 z TI TO .ellipsis f := hs2.extBut _ _ S.TOz.symm (hp2.extBut _ _ S.zi2 (hs1.extBut _ _ S.TOz.symm (hp1.extBut _ _ S.zi1 (hz0))))
  have hkk : ∀ c o, c ≠ z → c ≠ TO → c ≠ i1 → c ≠ i2 → hp.get? c = some o → g2.get? c = some o := fun c o cz cT c1 c2 e => hs2.extBut _ _ cT (hp2.extBut _ _ c2 (hs1.extBut _ _ cT (hp1.extBut _ _ c1 (hs0.extBut _ _ cz e))))
  have hj1 : St1 (i + 1) g2 := D1.over (D1.over (D1.over sn1 hs1 S.Tf1) hp2 S.sep2_1) hs2 S.Tf1
  have hj2 : St2 (i + 1) g2 := D2.over sn2 hs2 S.Tf2
  have hzlt : z < g2.objs.size := Heap.lt_size hzz
  show wpAny _ _ (Builtin.SmallTypes.ownedTupleHandOut (.ref z) (.ref g2.objs.size) >>= _) _ _ ⟨g2.push { cls := .type "tuple", data := .seq #[x1, x2] }, g, d, tk2, os⟩
  refine wpAny_bind ?_
  unfold Builtin.SmallTypes.ownedTupleHandOut
  have hz6 : IsZP (g2.push { cls := .type "tuple", data := .seq #[x1, x2] }) z TI TO .ellipsis f := Heap.get?_push_of_some _ hzz
  refine wpAny_bind (wpAny_setField_rec hz6 (by simp) fun h7 hz7 hs7 => ?_)
  replace hz7 : IsZP h7 z TI TO (rawInt g2.objs.size) f := hz7
  refine wpAny_setField_rec hz7 (by simp) fun h8 hz8 hs8 => ?_
  replace hz8 : IsZP h8 z TI TO (rawInt g2.objs.size) false := hz8
  replace hs7 : Heap.SameBut z (g2.push { cls := .type "tuple", data := .seq #[x1, x2] }) h7 := hs7
  replace hs8 : Heap.SameBut z h7 h8 := hs8
  have up : ∀ c o, c ≠ z → g2.get? c = some o → h8.get? c = some o := fun c o c1 e => hs8.extBut _ _ c1 (hs7.extBut _ _ c1 (Heap.get?_push_of_some _ e))
  have hT8 : IsTupOf2 h8 g2.objs.size x1 x2 := hs8.extBut _ _ (Nat.ne_of_gt hzlt) (hs7.extBut _ _ (Nat.ne_of_gt hzlt) (Heap.get?_push_size _ rfl))
  have hz9 : h8.objs.size = g2.objs.size + 1 := by rw [hs8.1, hs7.1, Heap.size_push]
  rw [hsz] at hz8 hT8 hz9
  refine wpAny_pure ⟨_, rfl, ?_⟩
  show Q (.ref g2.objs.size) ⟨h8, g, d, tk2, os⟩
  rw [hsz]
  exact hQ x1 x2 h8 tk2 hx1 hx2 hz8 (up _ _ S.TOz hT2) (D1.frame _ _ _ hj1 fun b hb o e => up b o (fun q => S.zf1 (q ▸ hb)) e) (D2.frame _ _ _ hj2 fun b hb o e => up b o (fun q => S.zf2 (q ▸ hb)) e) hT8 hz9 fun c o cz cT c1 c2 e => up c o cz (hkk c o cz cT c1 c2 e)

theorem zP2_itemH {T : Addr} {oT : Obj} {Q : Value → Shared → Prop} (S : ZipSep2 z TI TO i1 i2 fp1 fp2) (D1 : Draws prog w A i1 fp1 m P1 St1) (D2 : Draws prog w A i2 fp2 m P2 St2)
    (hz : IsZP s.heap z TI TO (rawInt T) f) (hT : s.heap.get? T = some oT) (hTI : IsTupOf2 s.heap TI (.ref i1) (.ref i2)) (st1 : St1 i s.heap) (st2 : St2 i s.heap) (hlt : i < m)
    (hQ : ∀ x1 x2 h' tk, P1 i x1 → P2 i x2 → IsZP h' z TI TO (rawInt T) true → St1 (i + 1) h' → St2 (i + 1) h' → IsTupOf2 h' s.heap.objs.size x1 x2 → h'.objs.size = s.heap.objs.size + 1 →
      (∀ c o, c ≠ z → c ≠ i1 → c ≠ i2 → s.heap.get? c = some o → h'.get? c = some o) → Q (.ref s.heap.objs.size) { s with heap := h', toks := tk }) :
    wpAny (model prog w) A (Builtin.«zip.__next__» ⟨[.ref z], []⟩) (fun fin s' => ∃ v, fin = .done (.ret v) ∧ Q v s') E s := by
  obtain ⟨hp, g, d, tk0, os⟩ := s
  show wpAny _ _ (field (.ref z) 2 >>= _) _ _ _
  refine wpAny_bind (wpAny_field hz rfl (x := .bool false) rfl ?_)
  show wpAny _ _ (field (.ref z) 3 >>= _) _ _ _
  refine wpAny_bind (wpAny_field hz rfl (x := .ref TI) rfl ?_)
  refine wpAny_bind (wpAny_seqItems hTI rfl ?_)
  show wpAny _ _ (Builtin.SmallTypes.ownedTupleIsFree (.ref z) >>= _) _ _ _
  refine wpAny_bind (heldP (s := ⟨hp, g, d, tk0, os⟩) hz hT fun g0 hz0 hs0 => ?_)
  replace hs0 : Heap.SameBut z hp g0 := hs0
  simp only [Bool.false_eq_true, if_false]
  refine wpAny_bind ?_
  rw [← Array.forIn_toList]
  simp only [List.forIn_cons, List.forIn_nil]
  refine wpAny_bind (wpAny_bind (wpAny_holding ?_))
  show wpAny _ _ (Builtin.SmallTypes.nextOf (.ref i1) >>= _) _ _ ⟨g0, g, d, tk0, os⟩
  refine wpAny_bind (D1.item i _ _ _ hlt (D1.over st1 hs0 S.zf1) fun x1 p1 tk1 hx1 sn1 hp1 => wpAny_pure ?_)
  replace hp1 : Heap.SameBut i1 g0 p1 := hp1
  refine wpAny_pure ?_
  refine wpAny_bind (wpAny_bind (wpAny_holding ?_))
  show wpAny _ _ (Builtin.SmallTypes.nextOf (.ref i2) >>= _) _ _ ⟨p1, g, d, tk1, os⟩
  refine wpAny_bind (D2.item i _ _ _ hlt (D2.over (D2.over st2 hs0 S.zf2) hp1 S.sep1_2) fun x2 p2 tk2 hx2 sn2 hp2 => wpAny_pure ?_)
  replace hp2 : Heap.SameBut i2 p1 p2 := hp2
  refine wpAny_pure (wpAny_pure ?_)
  show wpAny _ _ (newTuple [x1, x2] >>= _) _ _ ⟨p2, g, d, tk2, os⟩
  refine wpAny_bind (wpAny_newTuple ?_)
  have hsz : p2.objs.size = hp.objs.size := by rw [hp2.1, hp1.1, hs0.1]
  have hzz : IsZP p2 z TI TO (rawInt T) true := hp2.extBut _ _ S.zi2 (hp1.extBut _ _ S.zi1 (hz0))
  have hkk : ∀ c o, c ≠ z → c ≠ i1 → c ≠ i2 → hp.get? c = some o → p2.get? c = some o := fun c o cz c1 c2 e => hp2.extBut _ _ c2 (hp1.extBut _ _ c1 (hs0.extBut _ _ cz e))
  have hj1 : St1 (i + 1) p2 := D1.over (sn1) hp2 S.sep2_1
  have hj2 : St2 (i + 1) p2 := sn2
  refine wpAny_pure ⟨_, rfl, ?_⟩
  show Q (.ref p2.objs.size) ⟨p2.push { cls := .type "tuple", data := .seq #[x1, x2] }, g, d, tk2, os⟩
  have hq : IsTupOf2 (p2.push { cls := .type "tuple", data := .seq #[x1, x2] }) p2.objs.size x1 x2 := Heap.get?_push_size _ rfl
  have hz4 : (p2.push { cls := .type "tuple", data := .seq #[x1, x2] }).objs.size = p2.objs.size + 1 := Heap.size_push ..
  rw [hsz] at hq hz4 ⊢
  exact hQ x1 x2 _ tk2 hx1 hx2 (Heap.get?_push_of_some _ hzz) (D1.frame _ _ _ hj1 fun b hb o e => Heap.get?_push_of_some _ e) (D2.frame _ _ _ hj2 fun b hb o e => Heap.get?_push_of_some _ e) hq hz4 fun c o cz c1 c2 e => Heap.get?_push_of_some _ (hkk c o cz c1 c2 e)

theorem zP2_end {Q : Fin → Shared → Prop} (hh : A.handled = none) (S : ZipSep2 z TI TO i1 i2 fp1 fp2) (D1 : Draws prog w A i1 fp1 m P1 St1) (D2 : Draws prog w A i2 fp2 m P2 St2)
    (hz : IsZP s.heap z TI TO .none f) (hTI : IsTupOf2 s.heap TI (.ref i1) (.ref i2)) (st1 : St1 m s.heap) (st2 : St2 m s.heap)
    (hE : ∀ h' tk e, (∀ c o, c ≠ z → c ≠ i1 → c ≠ i2 → s.heap.get? c = some o → h'.get? c = some o) → (∃ o, h'.get? e = some o ∧ o.cls = .type "StopIteration") → E (.ref e) { s with heap := h', toks := tk }) :
    wpAny (model prog w) A (Builtin.«zip.__next__» ⟨[.ref z], []⟩) Q E s := by
  obtain ⟨hp, g, d, tk0, os⟩ := s
  show wpAny _ _ (field (.ref z) 2 >>= _) _ _ _
  refine wpAny_bind (wpAny_field hz rfl (x := .bool false) rfl ?_)
  show wpAny _ _ (field (.ref z) 3 >>= _) _ _ _
  refine wpAny_bind (wpAny_field hz rfl (x := .ref TI) rfl ?_)
  refine wpAny_bind (wpAny_seqItems hTI rfl ?_)
  show wpAny _ _ (Builtin.SmallTypes.ownedTupleIsFree (.ref z) >>= _) _ _ _
  refine wpAny_bind ?_
  unfold Builtin.SmallTypes.ownedTupleIsFree
  refine wpAny_bind (wpAny_field hz rfl (x := .none) rfl (wpAny_pure ?_))
  simp only [if_true]
  refine wpAny_bind (wpAny_rule ?_)
  refine wpAny_bind (wpAny_field hz rfl (x := .ref TO) rfl ?_)
  refine wpAny_bind (wpAny_setField_rec hz (by simp) fun g0 hz0 hs0 => ?_)
  replace hz0 : IsZP g0 z TI TO .ellipsis f := hz0
  replace hs0 : Heap.SameBut z hp g0 := hs0
  refine wpAny_bind ?_
  simp only [List.zipIdx_cons, List.zipIdx_nil, List.forIn_cons, List.forIn_nil]
  refine wpAny_bind (wpAny_bind (wpAny_onRaise ?_))
  show wpAny _ _ (Builtin.SmallTypes.nextOf (.ref i1) >>= _) _ _ ⟨g0, g, d, tk0, os⟩
  refine wpAny_bind (D1.done ⟨g0, g, d, tk0, os⟩ _ _ (D1.over st1 hs0 S.zf1) fun q e hq he => ?_)
  replace hq : Heap.ExtBut i1 g0 q := hq
  obtain ⟨oe, hoe, hce⟩ := he
  replace hoe : q.get? e = some oe := hoe
  have hzq : IsZP q z TI TO .ellipsis f := hq _ _ S.zi1 hz0
  have hez : e ≠ z := fun x => by subst x; rw [hzq] at hoe; cases hoe; simp at hce
  refine wpAny_setField_rec (s := ⟨q, g, d, tk0, os⟩) hzq (by simp) fun q' _ hq' => ?_
  replace hq' : Heap.SameBut z q q' := hq'
  exact hE q' tk0 e (fun c o cz c1 c2 x => hq'.extBut _ _ cz (hq _ _ c1 (hs0.extBut _ _ cz x))) ⟨oe, hq'.extBut _ _ hez hoe, hce⟩

theorem zP2_endH {T : Addr} {oT : Obj} {Q : Fin → Shared → Prop} (hh : A.handled = none) (S : ZipSep2 z TI TO i1 i2 fp1 fp2) (D1 : Draws prog w A i1 fp1 m P1 St1) (D2 : Draws prog w A i2 fp2 m P2 St2)
    (hz : IsZP s.heap z TI TO (rawInt T) f) (hT : s.heap.get? T = some oT) (hTI : IsTupOf2 s.heap TI (.ref i1) (.ref i2)) (st1 : St1 m s.heap) (st2 : St2 m s.heap)
    (hE : ∀ h' tk e, (∀ c o, c ≠ z → c ≠ i1 → c ≠ i2 → s.heap.get? c = some o → h'.get? c = some o) → (∃ o, h'.get? e = some o ∧ o.cls = .type "StopIteration") → E (.ref e) { s with heap := h', toks := tk }) :
    wpAny (model prog w) A (Builtin.«zip.__next__» ⟨[.ref z], []⟩) Q E s := by
  obtain ⟨hp, g, d, tk0, os⟩ := s
  show wpAny _ _ (field (.ref z) 2 >>= _) _ _ _
  refine wpAny_bind (wpAny_field hz rfl (x := .bool false) rfl ?_)
  show wpAny _ _ (field (.ref z) 3 >>= _) _ _ _
  refine wpAny_bind (wpAny_field hz rfl (x := .ref TI) rfl ?_)
  refine wpAny_bind (wpAny_seqItems hTI rfl ?_)
  show wpAny _ _ (Builtin.SmallTypes.ownedTupleIsFree (.ref z) >>= _) _ _ _
  refine wpAny_bind (heldP (s := ⟨hp, g, d, tk0, os⟩) hz hT fun g0 hz0 hs0 => ?_)
  replace hs0 : Heap.SameBut z hp g0 := hs0
  simp only [Bool.false_eq_true, if_false]
  refine wpAny_bind ?_
  rw [← Array.forIn_toList]
  simp only [List.forIn_cons, List.forIn_nil]
  refine wpAny_bind (wpAny_bind (wpAny_holding ?_))
  show wpAny _ _ (Builtin.SmallTypes.nextOf (.ref i1) >>= _) _ _ ⟨g0, g, d, tk0, os⟩
  refine wpAny_bind (D1.done ⟨g0, g, d, tk0, os⟩ _ _ (D1.over st1 hs0 S.zf1) fun q e hq he => ?_)
  replace hq : Heap.ExtBut i1 g0 q := hq
  exact hE q tk0 e (fun c o cz c1 c2 x => hq _ _ c1 (hs0.extBut _ _ cz x)) he

end
section
variable {prog : Program} {w : World} {A : Around} {E : Value → Shared → Prop} {s : Shared} {z TI TO i1 i2 i3 : Addr} {fp1 fp2 fp3 : List Addr} {m i : Nat} {P1 P2 P3 : Nat → Value → Prop} {St1 St2 St3 : Nat → Heap → Prop} {a1 a2 a3 : Value} {f : Bool}
theorem zP3_item {Q : Value → Shared → Prop} (S : ZipSep3 z TI TO i1 i2 i3 fp1 fp2 fp3) (D1 : Draws prog w A i1 fp1 m P1 St1) (D2 : Draws prog w A i2 fp2 m P2 St2) (D3 : Draws prog w A i3 fp3 m P3 St3)
    (hz : IsZP s.heap z TI TO .none f) (hTI : IsTupOf3 s.heap TI (.ref i1) (.ref i2) (.ref i3)) (hTO : IsTupOf3 s.heap TO a1 a2 a3) (st1 : St1 i s.heap) (st2 : St2 i s.heap) (st3 : St3 i s.heap) (hlt : i < m)
    (hQ : ∀ x1 x2 x3 h' tk, P1 i x1 → P2 i x2 → P3 i x3 → IsZP h' z TI TO (rawInt s.heap.objs.size) false → IsTupOf3 h' TO x1 x2 x3 → St1 (i + 1) h' → St2 (i + 1) h' → St3 (i + 1) h' → IsTupOf3 h' s.heap.objs.size x1 x2 x3 → h'.objs.size = s.heap.objs.size + 1 →
      (∀ c o, c ≠ z → c ≠ TO → c ≠ i1 → c ≠ i2 → c ≠ i3 → s.heap.get? c = some o → h'.get? c = some o) → Q (.ref s.heap.objs.size) { s with heap := h', toks := tk }) :
    wpAny (model prog w) A (Builtin.«zip.__next__» ⟨[.ref z], []⟩) (fun fin s' => ∃ v, fin = .done (.ret v) ∧ Q v s') E s := by
  obtain ⟨hp, g, d, tk0, os⟩ := s
  show wpAny _ _ (field (.ref z) 2 >>= _) _ _ _
  refine wpAny_bind (wpAny_field hz rfl (x := .bool false) rfl ?_)
  show wpAny _ _ (field (.ref z) 3 >>= _) _ _ _
  refine wpAny_bind (wpAny_field hz rfl (x := .ref TI) rfl ?_)
  refine wpAny_bind (wpAny_seqItems hTI rfl ?_)
  show wpAny _ _ (Builtin.SmallTypes.ownedTupleIsFree (.ref z) >>= _) _ _ _
  refine wpAny_bind ?_
  unfold Builtin.SmallTypes.ownedTupleIsFree
  refine wpAny_bind (wpAny_field hz rfl (x := .none) rfl (wpAny_pure ?_))
  simp only [if_true]
  refine wpAny_bind (wpAny_rule ?_)
  refine wpAny_bind (wpAny_field hz rfl (x := .ref TO) rfl ?_)
  refine wpAny_bind (wpAny_setField_rec hz (by simp) fun g0 hz0 hs0 => ?_)
  replace hz0 : IsZP g0 z TI TO .ellipsis f := hz0
  replace hs0 : Heap.SameBut z hp g0 := hs0
  refine wpAny_bind ?_
  simp only [List.zipIdx_cons, List.zipIdx_nil, List.forIn_cons, List.forIn_nil]
  refine wpAny_bind (wpAny_bind (wpAny_onRaise ?_))
  show wpAny _ _ (Builtin.SmallTypes.nextOf (.ref i1) >>= _) _ _ ⟨g0, g, d, tk0, os⟩
  refine wpAny_bind (D1.item i _ _ _ hlt (D1.over st1 hs0 S.zf1) fun x1 p1 tk1 hx1 sn1 hp1 => wpAny_pure ?_)
  replace hp1 : Heap.SameBut i1 g0 p1 := hp1
  have hU1 : IsTupOf3 p1 TO a1 a2 a3 := hp1.extBut _ _ S.Ti1 (hs0.extBut _ _ S.TOz hTO)
  refine wpAny_bind (wpAny_seqItems (s := ⟨p1, g, d, tk1, os⟩) hU1 rfl ?_)
  refine wpAny_bind (updateSeq_IsTupOf3 (s := ⟨p1, g, d, tk1, os⟩) hU1 fun g1 hT1 hs1 => ?_)
  replace hT1 : IsTupOf3 g1 TO x1 a2 a3 := hT1
  replace hs1 : Heap.SameBut TO p1 g1 := hs1
  refine wpAny_bind (wpAny_letGo (wpAny_pure ?_))
  refine wpAny_bind (wpAny_bind (wpAny_onRaise ?_))
  show wpAny _ _ (Builtin.SmallTypes.nextOf (.ref i2) >>= _) _ _ ⟨g1, g, d, tk1, os⟩
  refine wpAny_bind (D2.item i _ _ _ hlt (D2.over (D2.over (D2.over st2 hs0 S.zf2) hp1 S.sep1_2) hs1 S.Tf2) fun x2 p2 tk2 hx2 sn2 hp2 => wpAny_pure ?_)
  replace hp2 : Heap.SameBut i2 g1 p2 := hp2
  have hU2 : IsTupOf3 p2 TO x1 a2 a3 := hp2.extBut _ _ S.Ti2 hT1
  refine wpAny_bind (wpAny_seqItems (s := ⟨p2, g, d, tk2, os⟩) hU2 rfl ?_)
  refine wpAny_bind (updateSeq_IsTupOf3 (s := ⟨p2, g, d, tk2, os⟩) hU2 fun g2 hT2 hs2 => ?_)
  replace hT2 : IsTupOf3 g2 TO x1 x2 a3 := hT2
  replace hs2 : Heap.SameBut TO p2 g2 := hs2
  refine wpAny_bind (wpAny_letGo (wpAny_pure ?_))
  refine wpAny_bind (wpAny_bind (wpAny_onRaise ?_))
  show wpAny _ _ (Builtin.SmallTypes.nextOf (.ref i3) >>= _) _ _ ⟨g2, g, d, tk2, os⟩
  refine wpAny_bind (D3.item i _ _ _ hlt (D3.over (D3.over (D3.over (D3.over (D3.over st3 hs0 S.zf3) hp1 S.sep1_3) hs1 S.Tf3) hp2 S.sep2_3) hs2 S.Tf3) fun x3 p3 tk3 hx3 sn3 hp3 => wpAny_pure ?_)
  replace hp3 : Heap.SameBut i3 g2 p3 := hp3
  have hU3 : IsTupOf3 p3 TO x1 x2 a3 := hp3.extBut _ _ S.Ti3 hT2
  refine wpAny_bind (wpAny_seqItems (s := ⟨p3, g, d, tk3, os⟩) hU3 rfl ?_)
  refine wpAny_bind (updateSeq_IsTupOf3 (s := ⟨p3, g, d, tk3, os⟩) hU3 fun g3 hT3 hs3 => ?_)
  replace hT3 : IsTupOf3 g3 TO x1 x2 x3 := hT3
  replace hs3 : Heap.SameBut TO p3 g3 := hs3
  refine wpAny_bind (wpAny_letGo (wpAny_pure (wpAny_pure ?_)))
  refine wpAny_bind (wpAny_seqItems (s := ⟨g3, g, d, tk3, os⟩) hT3 rfl ?_)
  refine wpAny_bind (wpAny_newTuple ?_)
  have hsz : g3.objs.size = hp.objs.size := by rw [hs3.1, hp3.1, hs2.1, hp2.1, hs1.1, hp1.1, hs0.1]
  have hzz : IsZP g3 z TI TO .ellipsis f := hs3.extBut _ _ S.TOz.symm (hp3.extBut _ _ S.zi3 (hs2.extBut _ _ S.TOz.symm (hp2.extBut _ _ S.zi2 (hs1.extBut _ _ S.TOz.symm (hp1.extBut _ _ S.zi1 (hz0))))))
  have hkk : ∀ c o, c ≠ z → c ≠ TO → c ≠ i1 → c ≠ i2 → c ≠ i3 → hp.get? c = some o → g3.get? c = some o := fun c o cz cT c1 c2 c3 e => hs3.extBut _ _ cT (hp3.extBut _ _ c3 (hs2.extBut _ _ cT (hp2.extBut _ _ c2 (hs1.extBut _ _ cT (hp1.extBut _ _ c1 (hs0.extBut _ _ cz e))))))
  have hj1 : St1 (i + 1) g3 := D1.over (D1.over (D1.over (D1.over (D1.over sn1 hs1 S.Tf1) hp2 S.sep2_1) hs2 S.Tf1) hp3 S.sep3_1) hs3 S.Tf1
  have hj2 : St2 (i + 1) g3 := D2.over (D2.over (D2.over sn2 hs2 S.Tf2) hp3 S.sep3_2) hs3 S.Tf2
  have hj3 : St3 (i + 1) g3 := D3.over sn3 hs3 S.Tf3
  have hzlt : z < g3.objs.size := Heap.lt_size hzz
  show wpAny _ _ (Builtin.SmallTypes.ownedTupleHandOut (.ref z) (.ref g3.objs.size) >>= _) _ _ ⟨g3.push { cls := .type "tuple", data := .seq #[x1, x2, x3] }, g, d, tk3, os⟩
  refine wpAny_bind ?_
  unfold Builtin.SmallTypes.ownedTupleHandOut
  have hz6 : IsZP (g3.push { cls := .type "tuple", data := .seq #[x1, x2, x3] }) z TI TO .ellipsis f := Heap.get?_push_of_some _ hzz
  refine wpAny_bind (wpAny_setField_rec hz6 (by simp) fun h7 hz7 hs7 => ?_)
  replace hz7 : IsZP h7 z TI TO (rawInt g3.objs.size) f := hz7
  refine wpAny_setField_rec hz7 (by simp) fun h8 hz8 hs8 => ?_
  replace hz8 : IsZP h8 z TI TO (rawInt g3.objs.size) false := hz8
  replace hs7 : Heap.SameBut z (g3.push { cls := .type "tuple", data := .seq #[x1, x2, x3] }) h7 := hs7
  replace hs8 : Heap.SameBut z h7 h8 := hs8
  have up : ∀ c o, c ≠ z → g3.get? c = some o → h8.get? c = some o := fun c o c1 e => hs8.extBut _ _ c1 (hs7.extBut _ _ c1 (Heap.get?_push_of_some _ e))
  have hT8 : IsTupOf3 h8 g3.objs.size x1 x2 x3 := hs8.extBut _ _ (Nat.ne_of_gt hzlt) (hs7.extBut _ _ (Nat.ne_of_gt hzlt) (Heap.get?_push_size _ rfl))
  have hz9 : h8.objs.size = g3.objs.size + 1 := by rw [hs8.1, hs7.1, Heap.size_push]
  rw [hsz] at hz8 hT8 hz9
  refine wpAny_pure ⟨_, rfl, ?_⟩
  show Q (.ref g3.objs.size) ⟨h8, g, d, tk3, os⟩
  rw [hsz]
  exact hQ x1 x2 x3 h8 tk3 hx1 hx2 hx3 hz8 (up _ _ S.TOz hT3) (D1.frame _ _ _ hj1 fun b hb o e => up b o (fun q => S.zf1 (q ▸ hb)) e) (D2.frame _ _ _ hj2 fun b hb o e => up b o (fun q => S.zf2 (q ▸ hb)) e) (D3.frame _ _ _ hj3 fun b hb o e => up b o (fun q => S.zf3 (q ▸ hb)) e) hT8 hz9 fun c o cz cT c1 c2 c3 e => up c o cz (hkk c o cz cT c1 c2 c3 e)

theorem zP3_itemH {T : Addr} {oT : Obj} {Q : Value → Shared → Prop} (S : ZipSep3 z TI TO i1 i2 i3 fp1 fp2 fp3) (D1 : Draws prog w A i1 fp1 m P1 St1) (D2 : Draws prog w A i2 fp2 m P2 St2) (D3 : Draws prog w A i3 fp3 m P3 St3)
    (hz : IsZP s.heap z TI TO (rawInt T) f) (hT : s.heap.get? T = some oT) (hTI : IsTupOf3 s.heap TI (.ref i1) (.ref i2) (.ref i3)) (st1 : St1 i s.heap) (st2 : St2 i s.heap) (st3 : St3 i s.heap) (hlt : i < m)
    (hQ : ∀ x1 x2 x3 h' tk, P1 i x1 → P2 i x2 → P3 i x3 → IsZP h' z TI TO (rawInt T) true → St1 (i + 1) h' → St2 (i + 1) h' → St3 (i + 1) h' → IsTupOf3 h' s.heap.objs.size x1 x2 x3 → h'.objs.size = s.heap.objs.size + 1 →
      (∀ c o, c ≠ z → c ≠ i1 → c ≠ i2 → c ≠ i3 → s.heap.get? c = some o → h'.get? c = some o) → Q (.ref s.heap.objs.size) { s with heap := h', toks := tk }) :
    wpAny (model prog w) A (Builtin.«zip.__next__» ⟨[.ref z], []⟩) (fun fin s' => ∃ v, fin = .done (.ret v) ∧ Q v s') E s := by
  obtain ⟨hp, g, d, tk0, os⟩ := s
  show wpAny _ _ (field (.ref z) 2 >>= _) _ _ _
  refine wpAny_bind (wpAny_field hz rfl (x := .bool false) rfl ?_)
  show wpAny _ _ (field (.ref z) 3 >>= _) _ _ _
  refine wpAny_bind (wpAny_field hz rfl (x := .ref TI) rfl ?_)
  refine wpAny_bind (wpAny_seqItems hTI rfl ?_)
  show wpAny _ _ (Builtin.SmallTypes.ownedTupleIsFree (.ref z) >>= _) _ _ _
  refine wpAny_bind (heldP (s := ⟨hp, g, d, tk0, os⟩) hz hT fun g0 hz0 hs0 => ?_)
  replace hs0 : Heap.SameBut z hp g0 := hs0
  simp only [Bool.false_eq_true, if_false]
  refine wpAny_bind ?_
  rw [← Array.forIn_toList]
  simp only [List.forIn_cons, List.forIn_nil]
  refine wpAny_bind (wpAny_bind (wpAny_holding ?_))
  show wpAny _ _ (Builtin.SmallTypes.nextOf (.ref i1) >>= _) _ _ ⟨g0, g, d, tk0, os⟩
  refine wpAny_bind (D1.item i _ _ _ hlt (D1.over st1 hs0 S.zf1) fun x1 p1 tk1 hx1 sn1 hp1 => wpAny_pure ?_)
  replace hp1 : Heap.SameBut i1 g0 p1 := hp1
  refine wpAny_pure ?_
  refine wpAny_bind (wpAny_bind (wpAny_holding ?_))
  show wpAny _ _ (Builtin.SmallTypes.nextOf (.ref i2) >>= _) _ _ ⟨p1, g, d, tk1, os⟩
  refine wpAny_bind (D2.item i _ _ _ hlt (D2.over (D2.over st2 hs0 S.zf2) hp1 S.sep1_2) fun x2 p2 tk2 hx2 sn2 hp2 => wpAny_pure ?_)
  replace hp2 : Heap.SameBut i2 p1 p2 := hp2
  refine wpAny_pure ?_
  refine wpAny_bind (wpAny_bind (wpAny_holding ?_))
  show wpAny _ _ (Builtin.SmallTypes.nextOf (.ref i3) >>= _) _ _ ⟨p2, g, d, tk2, os⟩
  refine wpAny_bind (D3.item i _ _ _ hlt (D3.over (D3.over (D3.over st3 hs0 S.zf3) hp1 S.sep1_3) hp2 S.sep2_3) fun x3 p3 tk3 hx3 sn3 hp3 => wpAny_pure ?_)
  replace hp3 : Heap.SameBut i3 p2 p3 := hp3
  refine wpAny_pure (wpAny_pure ?_)
  show wpAny _ _ (newTuple [x1, x2, x3] >>= _) _ _ ⟨p3, g, d, tk3, os⟩
  refine wpAny_bind (wpAny_newTuple ?_)
  have hsz : p3.objs.size = hp.objs.size := by rw [hp3.1, hp2.1, hp1.1, hs0.1]
  have hzz : IsZP p3 z TI TO (rawInt T) true := hp3.extBut _ _ S.zi3 (hp2.extBut _ _ S.zi2 (hp1.extBut _ _ S.zi1 (hz0)))
  have hkk : ∀ c o, c ≠ z → c ≠ i1 → c ≠ i2 → c ≠ i3 → hp.get? c = some o → p3.get? c = some o := fun c o cz c1 c2 c3 e => hp3.extBut _ _ c3 (hp2.extBut _ _ c2 (hp1.extBut _ _ c1 (hs0.extBut _ _ cz e)))
  have hj1 : St1 (i + 1) p3 := D1.over (D1.over (sn1) hp2 S.sep2_1) hp3 S.sep3_1
  have hj2 : St2 (i + 1) p3 := D2.over (sn2) hp3 S.sep3_2
  have hj3 : St3 (i + 1) p3 := sn3
  refine wpAny_pure ⟨_, rfl, ?_⟩
  show Q (.ref p3.objs.size) ⟨p3.push { cls := .type "tuple", data := .seq #[x1, x2, x3] }, g, d, tk3, os⟩
  have hq : IsTupOf3 (p3.push { cls := .type "tuple", data := .seq #[x1, x2, x3] }) p3.objs.size x1 x2 x3 := Heap.get?_push_size _ rfl
  have hz4 : (p3.push { cls := .type "tuple", data := .seq #[x1, x2, x3] }).objs.size = p3.objs.size + 1 := Heap.size_push ..
  rw [hsz] at hq hz4 ⊢
  exact hQ x1 x2 x3 _ tk3 hx1 hx2 hx3 (Heap.get?_push_of_some _ hzz) (D1.frame _ _ _ hj1 fun b hb o e => Heap.get?_push_of_some _ e) (D2.frame _ _ _ hj2 fun b hb o e => Heap.get?_push_of_some _ e) (D3.frame _ _ _ hj3 fun b hb o e => Heap.get?_push_of_some _ e) hq hz4 fun c o cz c1 c2 c3 e => Heap.get?_push_of_some _ (hkk c o cz c1 c2 c3 e)

theorem zP3_end {Q : Fin → Shared → Prop} (hh : A.handled = none) (S : ZipSep3 z TI TO i1 i2 i3 fp1 fp2 fp3) (D1 : Draws prog w A i1 fp1 m P1 St1) (D2 : Draws prog w A i2 fp2 m P2 St2) (D3 : Draws prog w A i3 fp3 m P3 St3)
    (hz : IsZP s.heap z TI TO .none f) (hTI : IsTupOf3 s.heap TI (.ref i1) (.ref i2) (.ref i3)) (st1 : St1 m s.heap) (st2 : St2 m s.heap) (st3 : St3 m s.heap)
    (hE : ∀ h' tk e, (∀ c o, c ≠ z → c ≠ i1 → c ≠ i2 → c ≠ i3 → s.heap.get? c = some o → h'.get? c = some o) → (∃ o, h'.get? e = some o ∧ o.cls = .type "StopIteration") → E (.ref e) { s with heap := h', toks := tk }) :
    wpAny (model prog w) A (Builtin.«zip.__next__» ⟨[.ref z], []⟩) Q E s := by
  obtain ⟨hp, g, d, tk0, os⟩ := s
  show wpAny _ _ (field (.ref z) 2 >>= _) _ _ _
  refine wpAny_bind (wpAny_field hz rfl (x := .bool false) rfl ?_)
  show wpAny _ _ (field (.ref z) 3 >>= _) _ _ _
  refine wpAny_bind (wpAny_field hz rfl (x := .ref TI) rfl ?_)
  refine wpAny_bind (wpAny_seqItems hTI rfl ?_)
  show wpAny _ _ (Builtin.SmallTypes.ownedTupleIsFree (.ref z) >>= _) _ _ _
  refine wpAny_bind ?_
  unfold Builtin.SmallTypes.ownedTupleIsFree
  refine wpAny_bind (wpAny_field hz rfl (x := .none) rfl (wpAny_pure ?_))
  simp only [if_true]
  refine wpAny_bind (wpAny_rule ?_)
  refine wpAny_bind (wpAny_field hz rfl (x := .ref TO) rfl ?_)
  refine wpAny_bind (wpAny_setField_rec hz (by simp) fun g0 hz0 hs0 => ?_)
  replace hz0 : IsZP g0 z TI TO .ellipsis f := hz0
  replace hs0 : Heap.SameBut z hp g0 := hs0
  refine wpAny_bind ?_
  simp only [List.zipIdx_cons, List.zipIdx_nil, List.forIn_cons, List.forIn_nil]
  refine wpAny_bind (wpAny_bind (wpAny_onRaise ?_))
  show wpAny _ _ (Builtin.SmallTypes.nextOf (.ref i1) >>= _) _ _ ⟨g0, g, d, tk0, os⟩
  refine wpAny_bind (D1.done ⟨g0, g, d, tk0, os⟩ _ _ (D1.over st1 hs0 S.zf1) fun q e hq he => ?_)
  replace hq : Heap.ExtBut i1 g0 q := hq
  obtain ⟨oe, hoe, hce⟩ := he
  replace hoe : q.get? e = some oe := hoe
  have hzq : IsZP q z TI TO .ellipsis f := hq _ _ S.zi1 hz0
  have hez : e ≠ z := fun x => by subst x; rw [hzq] at hoe; cases hoe; simp at hce
  refine wpAny_setField_rec (s := ⟨q, g, d, tk0, os⟩) hzq (by simp) fun q' _ hq' => ?_
  replace hq' : Heap.SameBut z q q' := hq'
  exact hE q' tk0 e (fun c o cz c1 c2 c3 x => hq'.extBut _ _ cz (hq _ _ c1 (hs0.extBut _ _ cz x))) ⟨oe, hq'.extBut _ _ hez hoe, hce⟩

theorem zP3_endH {T : Addr} {oT : Obj} {Q : Fin → Shared → Prop} (hh : A.handled = none) (S : ZipSep3 z TI TO i1 i2 i3 fp1 fp2 fp3) (D1 : Draws prog w A i1 fp1 m P1 St1) (D2 : Draws prog w A i2 fp2 m P2 St2) (D3 : Draws prog w A i3 fp3 m P3 St3)
    (hz : IsZP s.heap z TI TO (rawInt T) f) (hT : s.heap.get? T = some oT) (hTI : IsTupOf3 s.heap TI (.ref i1) (.ref i2) (.ref i3)) (st1 : St1 m s.heap) (st2 : St2 m s.heap) (st3 : St3 m s.heap)
    (hE : ∀ h' tk e, (∀ c o, c ≠ z → c ≠ i1 → c ≠ i2 → c ≠ i3 → s.heap.get? c = some o → h'.get? c = some o) → (∃ o, h'.get? e = some o ∧ o.cls = .type "StopIteration") → E (.ref e) { s with heap := h', toks := tk }) :
    wpAny (model prog w) A (Builtin.«zip.__next__» ⟨[.ref z], []⟩) Q E s := by
  obtain ⟨hp, g, d, tk0, os⟩ := s
  show wpAny _ _ (field (.ref z) 2 >>= _) _ _ _
  refine wpAny_bind (wpAny_field hz rfl (x := .bool false) rfl ?_)
  show wpAny _ _ (field (.ref z) 3 >>= _) _ _ _
  refine wpAny_bind (wpAny_field hz rfl (x := .ref TI) rfl ?_)
  refine wpAny_bind (wpAny_seqItems hTI rfl ?_)
  show wpAny _ _ (Builtin.SmallTypes.ownedTupleIsFree (.ref z) >>= _) _ _ _
  refine wpAny_bind (heldP (s := ⟨hp, g, d, tk0, os⟩) hz hT fun g0 hz0 hs0 => ?_)
  replace hs0 : Heap.SameBut z hp g0 := hs0
  simp only [Bool.false_eq_true, if_false]
  refine wpAny_bind ?_
  rw [← Array.forIn_toList]
  simp only [List.forIn_cons, List.forIn_nil]
  refine wpAny_bind (wpAny_bind (wpAny_holding ?_))
  show wpAny _ _ (Builtin.SmallTypes.nextOf (.ref i1) >>= _) _ _ ⟨g0, g, d, tk0, os⟩
  refine wpAny_bind (D1.done ⟨g0, g, d, tk0, os⟩ _ _ (D1.over st1 hs0 S.zf1) fun q e hq he => ?_)
  replace hq : Heap.ExtBut i1 g0 q := hq
  exact hE q tk0 e (fun c o cz c1 c2 c3 x => hq _ _ c1 (hs0.extBut _ _ cz x)) he

end
end DZ

set_option Elab.async false
set_option linter.all false
set_option maxRecDepth 100000
set_option maxHeartbeats 4000000
set_option autoImplicit false
/-! printed by wip/gen/genzip2.py -/
namespace DZ
open PySem
open PySem.Sem (wp)
theorem tcS2 (a b c : Value) : checkTypeCall "zip" ⟨[a, b], [(Str.ofString "strict", c)]⟩ = pure () := by kernel_rfl
theorem ncS2 (a b c : Value) : checkBuiltinCall "zip.__new__" ⟨[.type "zip", a, b], [(Str.ofString "strict", c)]⟩ = pure () := by kernel_rfl
theorem ioS2 (o a b c : Value) : argsOk "object.__init__" ⟨[o, a, b], [(Str.ofString "strict", c)]⟩ := by unfold argsOk; kernel_rfl
theorem tcS3 (a b d c : Value) : checkTypeCall "zip" ⟨[a, b, d], [(Str.ofString "strict", c)]⟩ = pure () := by kernel_rfl
theorem ncS3 (a b d c : Value) : checkBuiltinCall "zip.__new__" ⟨[.type "zip", a, b, d], [(Str.ofString "strict", c)]⟩ = pure () := by kernel_rfl
theorem ioS3 (o a b d c : Value) : argsOk "object.__init__" ⟨[o, a, b, d], [(Str.ofString "strict", c)]⟩ := by unfold argsOk; kernel_rfl

abbrev szT2 (h : Heap) (o1 o2 : Obj) : Heap := ((h.push o1).push o2).push { cls := .type "tuple", data := .seq #[.ref h.objs.size, .ref (h.push o1).objs.size] }
abbrev szO2 (h : Heap) (o1 o2 : Obj) : Heap := (szT2 h o1 o2).push { cls := .type "tuple", data := .seq #[.none, .none] }
abbrev szZ2 (h : Heap) (o1 o2 : Obj) : Heap := (szO2 h o1 o2).push { cls := .type "zip", data := .fields #[.none, .bool false, .bool true, .ref ((h.push o1).push o2).objs.size, .ref (szT2 h o1 o2).objs.size] }
theorem meetsS2 {v1 v2 : Value} {o1 o2 : Obj} {H1 H2 : Heap → Prop} (B1 : Begins v1 o1 H1) (B2 : Begins v2 o2 H2) :
    Meets (Builtin.«zip.__new__» ⟨[.type "zip", v1, v2], [(Str.ofString "strict", .bool true)]⟩) (fun _ R s => (H1 s.heap ∧ H2 s.heap) ∧
      R (.ok (.ret (.ref (szO2 s.heap o1 o2).objs.size))) { s with heap := szZ2 s.heap o1 o2 }) :=
  .of_wp fun prog w A R s h => by
    obtain ⟨hp, g, d, tk, os⟩ := s; obtain ⟨⟨h1, h2⟩, h⟩ := h
    have hsub := sub_zip
    have q1 : ∀ {A' : Around} {E : Value → Shared → Prop} {Q : Value → Shared → Prop}, Q (.ref hp.objs.size) ⟨(hp.push o1), g, d, tk, os⟩ → wpAny (model prog w) A' (pyIter v1) Q E ⟨hp, g, d, tk, os⟩ :=
      fun q => B1.iter prog w _ _ ⟨hp, g, d, tk, os⟩ _ (B1.keeps _ _ h1 fun b o' e => e) q
    have q2 : ∀ {A' : Around} {E : Value → Shared → Prop} {Q : Value → Shared → Prop}, Q (.ref (hp.push o1).objs.size) ⟨((hp.push o1).push o2), g, d, tk, os⟩ → wpAny (model prog w) A' (pyIter v2) Q E ⟨(hp.push o1), g, d, tk, os⟩ :=
      fun q => B2.iter prog w _ _ ⟨(hp.push o1), g, d, tk, os⟩ _ (B2.keeps _ _ h2 fun b o' e => (Heap.get?_push_of_some _ e)) q
    have e1 : (Str.ofString "strict" == ("strict" : Str)) = true := by decide +kernel
    have e2 : (Str.ofString "strict" != ("strict" : Str)) = false := by decide +kernel
    have e4 : (("strict" : Str) == Str.ofString "strict") = true := by decide +kernel
    wp_walk using q1, q2
    exact ⟨_, rfl, h⟩
section
variable {prog : Program} {w : World} {A : Around} {E : Value → Shared → Prop} {s : Shared}
theorem beginsS2 {v1 v2 : Value} {o1 o2 : Obj} {H1 H2 : Heap → Prop} {Q : Value → Shared → Prop} (B1 : Begins v1 o1 H1) (B2 : Begins v2 o2 H2) (h1 : H1 s.heap) (h2 : H2 s.heap)
    (h : ∀ h', IsZS h' (s.heap.objs.size + 4) (s.heap.objs.size + 2) (s.heap.objs.size + 3) .none false → IsTupOf2 h' (s.heap.objs.size + 2) (.ref s.heap.objs.size) (.ref (s.heap.objs.size + 1)) →
      IsTupOf2 h' (s.heap.objs.size + 3) .none .none → h'.get? s.heap.objs.size = some o1 → h'.get? (s.heap.objs.size + 1) = some o2 → h'.objs.size = s.heap.objs.size + 5 →
      (∀ c o, s.heap.get? c = some o → h'.get? c = some o) → Q (.ref (s.heap.objs.size + 4)) { s with heap := h' }) :
    wpAny (model prog w) A (call (.type "zip") [v1, v2] [(Str.ofString "strict", .bool true)]) Q E s := by
  refine callType_newKw F.called_zip (by decide) (tcS2 _ _ _) (ncS2 _ _ _) (fun obj => ioS2 obj _ _ _) F.entry_zip_new (meetsS2 B1 B2) ⟨⟨h1, h2⟩, ?_⟩
  have z1 : (s.heap.push o1).objs.size = s.heap.objs.size + 1 := by rw [Heap.size_push]
  have z2 : ((s.heap.push o1).push o2).objs.size = s.heap.objs.size + 2 := by rw [Heap.size_push, z1]
  have zT : (szT2 s.heap o1 o2).objs.size = s.heap.objs.size + 3 := by rw [Heap.size_push, z2]
  have zO : (szO2 s.heap o1 o2).objs.size = s.heap.objs.size + 4 := by rw [Heap.size_push, zT]
  have zZ : (szZ2 s.heap o1 o2).objs.size = s.heap.objs.size + 5 := by rw [Heap.size_push, zO]
  have gZ : (szZ2 s.heap o1 o2).get? (szO2 s.heap o1 o2).objs.size = some { cls := .type "zip", data := .fields #[.none, .bool false, .bool true, .ref ((s.heap.push o1).push o2).objs.size, .ref (szT2 s.heap o1 o2).objs.size] } := Heap.get?_push_size _ rfl
  have gO : (szZ2 s.heap o1 o2).get? (szT2 s.heap o1 o2).objs.size = some { cls := .type "tuple", data := .seq #[.none, .none] } := Heap.get?_push_of_some _ (Heap.get?_push_size _ rfl)
  have gT : (szZ2 s.heap o1 o2).get? ((s.heap.push o1).push o2).objs.size = some { cls := .type "tuple", data := .seq #[.ref s.heap.objs.size, .ref (s.heap.push o1).objs.size] } := Heap.get?_push_of_some _ (Heap.get?_push_of_some _ (Heap.get?_push_size _ rfl))
  have g1 : (szZ2 s.heap o1 o2).get? s.heap.objs.size = some o1 := (Heap.get?_push_of_some _ (Heap.get?_push_of_some _ (Heap.get?_push_of_some _ (Heap.get?_push_of_some _ (Heap.get?_push_size _ B1.free)))))
  have g2 : (szZ2 s.heap o1 o2).get? (s.heap.push o1).objs.size = some o2 := (Heap.get?_push_of_some _ (Heap.get?_push_of_some _ (Heap.get?_push_of_some _ (Heap.get?_push_size _ B2.free))))
  rw [zO, zT, z2] at gZ
  rw [zT] at gO
  rw [z2, z1] at gT
  rw [z1] at g2
  show _ ∧ _
  rw [zO]
  exact ⟨⟨_, gZ, rfl⟩, h _ gZ gT gO g1 g2 zZ fun c o e => (Heap.get?_push_of_some _ (Heap.get?_push_of_some _ (Heap.get?_push_of_some _ (Heap.get?_push_of_some _ (Heap.get?_push_of_some _ e)))))⟩
end

abbrev szT3 (h : Heap) (o1 o2 o3 : Obj) : Heap := (((h.push o1).push o2).push o3).push { cls := .type "tuple", data := .seq #[.ref h.objs.size, .ref (h.push o1).objs.size, .ref ((h.push o1).push o2).objs.size] }
abbrev szO3 (h : Heap) (o1 o2 o3 : Obj) : Heap := (szT3 h o1 o2 o3).push { cls := .type "tuple", data := .seq #[.none, .none, .none] }
abbrev szZ3 (h : Heap) (o1 o2 o3 : Obj) : Heap := (szO3 h o1 o2 o3).push { cls := .type "zip", data := .fields #[.none, .bool false, .bool true, .ref (((h.push o1).push o2).push o3).objs.size, .ref (szT3 h o1 o2 o3).objs.size] }
theorem meetsS3 {v1 v2 v3 : Value} {o1 o2 o3 : Obj} {H1 H2 H3 : Heap → Prop} (B1 : Begins v1 o1 H1) (B2 : Begins v2 o2 H2) (B3 : Begins v3 o3 H3) :
    Meets (Builtin.«zip.__new__» ⟨[.type "zip", v1, v2, v3], [(Str.ofString "strict", .bool true)]⟩) (fun _ R s => (H1 s.heap ∧ H2 s.heap ∧ H3 s.heap) ∧
      R (.ok (.ret (.ref (szO3 s.heap o1 o2 o3).objs.size))) { s with heap := szZ3 s.heap o1 o2 o3 }) :=
  .of_wp fun prog w A R s h => by
    obtain ⟨hp, g, d, tk, os⟩ := s; obtain ⟨⟨h1, h2, h3⟩, h⟩ := h
    have hsub := sub_zip
    have q1 : ∀ {A' : Around} {E : Value → Shared → Prop} {Q : Value → Shared → Prop}, Q (.ref hp.objs.size) ⟨(hp.push o1), g, d, tk, os⟩ → wpAny (model prog w) A' (pyIter v1) Q E ⟨hp, g, d, tk, os⟩ :=
      fun q => B1.iter prog w _ _ ⟨hp, g, d, tk, os⟩ _ (B1.keeps _ _ h1 fun b o' e => e) q
    have q2 : ∀ {A' : Around} {E : Value → Shared → Prop} {Q : Value → Shared → Prop}, Q (.ref (hp.push o1).objs.size) ⟨((hp.push o1).push o2), g, d, tk, os⟩ → wpAny (model prog w) A' (pyIter v2) Q E ⟨(hp.push o1), g, d, tk, os⟩ :=
      fun q => B2.iter prog w _ _ ⟨(hp.push o1), g, d, tk, os⟩ _ (B2.keeps _ _ h2 fun b o' e => (Heap.get?_push_of_some _ e)) q
    have q3 : ∀ {A' : Around} {E : Value → Shared → Prop} {Q : Value → Shared → Prop}, Q (.ref ((hp.push o1).push o2).objs.size) ⟨(((hp.push o1).push o2).push o3), g, d, tk, os⟩ → wpAny (model prog w) A' (pyIter v3) Q E ⟨((hp.push o1).push o2), g, d, tk, os⟩ :=
      fun q => B3.iter prog w _ _ ⟨((hp.push o1).push o2), g, d, tk, os⟩ _ (B3.keeps _ _ h3 fun b o' e => (Heap.get?_push_of_some _ (Heap.get?_push_of_some _ e))) q
    have e1 : (Str.ofString "strict" == ("strict" : Str)) = true := by decide +kernel
    have e2 : (Str.ofString "strict" != ("strict" : Str)) = false := by decide +kernel
    have e4 : (("strict" : Str) == Str.ofString "strict") = true := by decide +kernel
    wp_walk using q1, q2, q3
    exact ⟨_, rfl, h⟩
section
variable {prog : Program} {w : World} {A : Around} {E : Value → Shared → Prop} {s : Shared}
theorem beginsS3 {v1 v2 v3 : Value} {o1 o2 o3 : Obj} {H1 H2 H3 : Heap → Prop} {Q : Value → Shared → Prop} (B1 : Begins v1 o1 H1) (B2 : Begins v2 o2 H2) (B3 : Begins v3 o3 H3) (h1 : H1 s.heap) (h2 : H2 s.heap) (h3 : H3 s.heap)
    (h : ∀ h', IsZS h' (s.heap.objs.size + 5) (s.heap.objs.size + 3) (s.heap.objs.size + 4) .none false → IsTupOf3 h' (s.heap.objs.size + 3) (.ref s.heap.objs.size) (.ref (s.heap.objs.size + 1)) (.ref (s.heap.objs.size + 2)) →
      IsTupOf3 h' (s.heap.objs.size + 4) .none .none .none → h'.get? s.heap.objs.size = some o1 → h'.get? (s.heap.objs.size + 1) = some o2 → h'.get? (s.heap.objs.size + 2) = some o3 → h'.objs.size = s.heap.objs.size + 6 →
      (∀ c o, s.heap.get? c = some o → h'.get? c = some o) → Q (.ref (s.heap.objs.size + 5)) { s with heap := h' }) :
    wpAny (model prog w) A (call (.type "zip") [v1, v2, v3] [(Str.ofString "strict", .bool true)]) Q E s := by
  refine callType_newKw F.called_zip (by decide) (tcS3 _ _ _ _) (ncS3 _ _ _ _) (fun obj => ioS3 obj _ _ _ _) F.entry_zip_new (meetsS3 B1 B2 B3) ⟨⟨h1, h2, h3⟩, ?_⟩
  have z1 : (s.heap.push o1).objs.size = s.heap.objs.size + 1 := by rw [Heap.size_push]
  have z2 : ((s.heap.push o1).push o2).objs.size = s.heap.objs.size + 2 := by rw [Heap.size_push, z1]
  have z3 : (((s.heap.push o1).push o2).push o3).objs.size = s.heap.objs.size + 3 := by rw [Heap.size_push, z2]
  have zT : (szT3 s.heap o1 o2 o3).objs.size = s.heap.objs.size + 4 := by rw [Heap.size_push, z3]
  have zO : (szO3 s.heap o1 o2 o3).objs.size = s.heap.objs.size + 5 := by rw [Heap.size_push, zT]
  have zZ : (szZ3 s.heap o1 o2 o3).objs.size = s.heap.objs.size + 6 := by rw [Heap.size_push, zO]
  have gZ : (szZ3 s.heap o1 o2 o3).get? (szO3 s.heap o1 o2 o3).objs.size = some { cls := .type "zip", data := .fields #[.none, .bool false, .bool true, .ref (((s.heap.push o1).push o2).push o3).objs.size, .ref (szT3 s.heap o1 o2 o3).objs.size] } := Heap.get?_push_size _ rfl
  have gO : (szZ3 s.heap o1 o2 o3).get? (szT3 s.heap o1 o2 o3).objs.size = some { cls := .type "tuple", data := .seq #[.none, .none, .none] } := Heap.get?_push_of_some _ (Heap.get?_push_size _ rfl)
  have gT : (szZ3 s.heap o1 o2 o3).get? (((s.heap.push o1).push o2).push o3).objs.size = some { cls := .type "tuple", data := .seq #[.ref s.heap.objs.size, .ref (s.heap.push o1).objs.size, .ref ((s.heap.push o1).push o2).objs.size] } := Heap.get?_push_of_some _ (Heap.get?_push_of_some _ (Heap.get?_push_size _ rfl))
  have g1 : (szZ3 s.heap o1 o2 o3).get? s.heap.objs.size = some o1 := (Heap.get?_push_of_some _ (Heap.get?_push_of_some _ (Heap.get?_push_of_some _ (Heap.get?_push_of_some _ (Heap.get?_push_of_some _ (Heap.get?_push_size _ B1.free))))))
  have g2 : (szZ3 s.heap o1 o2 o3).get? (s.heap.push o1).objs.size = some o2 := (Heap.get?_push_of_some _ (Heap.get?_push_of_some _ (Heap.get?_push_of_some _ (Heap.get?_push_of_some _ (Heap.get?_push_size _ B2.free)))))
  have g3 : (szZ3 s.heap o1 o2 o3).get? ((s.heap.push o1).push o2).objs.size = some o3 := (Heap.get?_push_of_some _ (Heap.get?_push_of_some _ (Heap.get?_push_of_some _ (Heap.get?_push_size _ B3.free))))
  rw [zO, zT, z3] at gZ
  rw [zT] at gO
  rw [z3, z2, z1] at gT
  rw [z1] at g2
  rw [z2] at g3
  show _ ∧ _
  rw [zO]
  exact ⟨⟨_, gZ, rfl⟩, h _ gZ gT gO g1 g2 g3 zZ fun c o e => (Heap.get?_push_of_some _ (Heap.get?_push_of_some _ (Heap.get?_push_of_some _ (Heap.get?_push_of_some _ (Heap.get?_push_of_some _ (Heap.get?_push_of_some _ e))))))⟩
end

/-! lists and tuples as sources -/
def IterAt (t : Bool) (h : Heap) (it l : Addr) (i : Nat) : Prop := match t with
  | true => h.IsTupleIter it l i
  | false => h.IsListIter it l i
def ItemsAt (t : Bool) (h : Heap) (l : Addr) (items : Array Value) : Prop := match t with
  | true => h.IsTuple l items
  | false => h.IsList l items
theorem drawsB {prog : Program} {w : World} {A : Around} (t : Bool) (hh : A.handled = none) (it l : Addr) (hne : l ≠ it) (items : Array Value) : Draws prog w A it [it, l] items.size (fun i v => items[i]? = some v) (fun i h => IterAt t h it l i ∧ ItemsAt t h l items) := by
  cases t with
  | true => exact Draws.tuple hh it l hne items
  | false => exact Draws.list hh it l hne items
def itObj (t : Bool) (l : Addr) : Obj := match t with
  | true => { cls := .type "tuple_iterator", data := .fields #[.ref l, .int 0 0] }
  | false => { cls := .type "list_iterator", data := .fields #[.ref l, .int 0 0] }
theorem beginsB (t : Bool) (l : Addr) (items : Array Value) : Begins (.ref l) (itObj t l) fun h => ItemsAt t h l items := by
  cases t with
  | true => exact begins_tuple l items
  | false => exact begins_list l items
theorem IterAt.start {t : Bool} {h : Heap} {it l : Addr} (e : h.get? it = some (itObj t l)) : IterAt t h it l 0 := by
  cases t with
  | true => exact ⟨_, e, rfl, rfl⟩
  | false => exact ⟨_, e, rfl, rfl⟩
theorem IterAt.move {t : Bool} {h h' : Heap} {it l : Addr} {i : Nat} (x : IterAt t h it l i) (k : ∀ o, h.get? it = some o → h'.get? it = some o) : IterAt t h' it l i := by
  cases t with
  | true => exact Heap.IsTupleIter.at x k
  | false => exact Heap.IsListIter.at x k
theorem IterAt.obj {t : Bool} {h : Heap} {it l : Addr} {i : Nat} (x : IterAt t h it l i) : ∃ o, h.get? it = some o ∧ ∀ v, o.data ≠ .cell v := by
  cases t with
  | true =>
    obtain ⟨o, e, _, d⟩ := x
    exact ⟨o, e, fun v q => by rw [d] at q; cases q⟩
  | false =>
    obtain ⟨o, e, _, d⟩ := x
    exact ⟨o, e, fun v q => by rw [d] at q; cases q⟩
theorem ItemsAt.lt {t : Bool} {h : Heap} {l : Addr} {items : Array Value} (x : ItemsAt t h l items) : l < h.objs.size := by
  cases t with
  | true => obtain ⟨o, e, _⟩ := x; exact Heap.lt_size e
  | false => obtain ⟨o, e, _⟩ := x; exact Heap.lt_size e
end DZ
namespace DL
open PySem PySem.Spec PyProof.Rows L2
theorem seqB_at {X : Cx} {pins : List (Addr × Obj)} {s : L2.St} {H : Hp} {sh : Shared} {t : Bool} {a : Addr} {xs : List V} (I : Inv X pins s H sh) (h : SqB X.K t H a xs) : ∃ its : List Value, Vals xs its ∧ DZ.ItemsAt t sh.heap a its.toArray ∧ xs.length ≤ sizeLine := by
  cases t with
  | true =>
    obtain ⟨its, r, p, z⟩ := I.tuple h
    exact ⟨its, r, p, z⟩
  | false =>
    obtain ⟨its, r, p, z⟩ := I.list h
    exact ⟨its, r, p.isList, z⟩
theorem seqB_inj {X : Cx} {pins : List (Addr × Obj)} {s : L2.St} {H : Hp} {sh : Shared} {t : Bool} {a : Addr} {xs ys : List V} (I : Inv X pins s H sh) (h : SqB X.K t H a xs) (h' : SqB X.K t H a ys) : xs = ys := by
  cases t with
  | true => exact I.tuple_inj h h'
  | false => exact I.list_inj h h'
theorem same_b {K : PySem.W.Frag} {t : Bool} {H H' : Hp} {a : Addr} {xs : List V} (e : Same H H') (h : SqB K t H a xs) : SqB K t H' a xs := by
  cases t with
  | true => exact same_t e h
  | false => exact same_l e h
section
variable {M : Model} {A : Around} {E : Value → Shared → Prop} {s : Shared} {env : Env}
theorem cw_type_kw {pos : Pos} {T : String} {e : Expr} {rest : List Expr} {kws : List Keyword} {Q : Value → Shared → Prop}
    (h : wpAny M A (spliced (backTo pos (starEach (e :: rest) env))) (fun vs s₁ => wpAny M A (evalAll ((backToKw pos (keywordEach kws env)).map (·.2)))
      (fun kvs s₂ => wpAny M A (call (.type T) vs (((backToKw pos (keywordEach kws env)).filterMap (·.1)).zip kvs)) Q E s₂) E s₁) E s)
    (he : backTo pos (starEach (e :: rest) env) = (false, eval e env) :: backTo pos (starEach rest env)) (hplain : (backTo pos (starEach (e :: rest) env)).any (·.1) = false)
    (hall : (backToKw pos (keywordEach kws env)).all (·.1.isSome) = true) (hkw : (backToKw pos (keywordEach kws env)).any (·.1.isNone) = false) :
    wpAny M A (callWith pos (.type T) [] (backTo pos (starEach (e :: rest) env)) (backToKw pos (keywordEach kws env))) Q E s := by
  unfold callWith
  have h2 : wpAny M A (evalArgs (.type T) true (backTo pos (starEach (e :: rest) env)) (backToKw pos (keywordEach kws env))) (fun a s₁ => wpAny M A (call (.type T) ([] ++ a.pos) a.kw) Q E s₁) E s := by
    rw [he] at h ⊢
    exact evalArgs_kwB hall h
  refine wpAny_bind (wpAny_holding (wpAny_mono h2 (fun a s₁ h₁ => wpAny_bind (wpAny_standAt ?_)) fun _ _ x => x))
  simp only [hplain, hkw, Bool.or_false]
  refine wpAny_bind (wpAny_pure ?_)
  exact wpAny_bind (wpAny_mono h₁ (fun r s₂ hr => wpAny_bind (wpAny_holding (wpAny_point (wpAny_pure hr)))) fun _ _ x => x)
end

/-- 2 sources of one length, the items in new tuples -/
def ItZ2 (K : PySem.W.Frag) (t1 : Bool) (a1 : Addr) (t2 : Bool) (a2 : Addr) : It :=
  ⟨fun i H => ∃ (xs1 xs2 : List V) (x1 x2 : V) (n : Nat), SqB K t1 H a1 xs1 ∧ SqB K t2 H a2 xs2 ∧ xs1.length = n ∧ xs2.length = n ∧ xs1[i]? = some x1 ∧ xs2[i]? = some x2,
    fun i H v H' => ∃ (T : Addr) (x1 x2 : V), v = .ref T ∧ H T = none ∧ H' = upd H T (.tup [x1, x2]) ∧ (∀ xs, SqB K t1 H a1 xs → xs[i]? = some x1) ∧ (∀ xs, SqB K t2 H a2 xs → xs[i]? = some x2),
    fun i H => ∃ xs1 xs2 : List V, SqB K t1 H a1 xs1 ∧ SqB K t2 H a2 xs2 ∧ xs1.length = i ∧ xs2.length = i⟩
theorem turnS2 {P : Program} {w : World} {K : PySem.W.Frag} {elts : List Expr} {kk : Nat} {tpos : Pos} {t1 t2 : Bool} {a1 a2 z TI TO i1 i2 : Addr} (D : ZipSep2 z TI TO i1 i2 [i1, a1] [i2, a2]) (ne1 : a1 ≠ i1) (ne2 : a2 ≠ i2) :
    Turn P w K (.Tuple elts kk tpos) (ItZ2 K t1 a1 t2 a2) [z, TI, TO, i1, i2] z (fun i h => DZ.IsZS h z TI TO .none false ∧ IsTupOf2 h TI (.ref i1) (.ref i2) ∧ (∃ b1 b2, IsTupOf2 h TO b1 b2) ∧ DZ.IterAt t1 h i1 a1 i ∧ DZ.IterAt t2 h i2 a2 i) where
  mem := by simp
  obj := fun i h st c hc => by
    obtain ⟨hz, hTI, ⟨b1, b2, hTO⟩, h1, h2⟩ := st
    have e' : c = z ∨ c = TI ∨ c = TO ∨ c = i1 ∨ c = i2 := by simpa using hc
    rcases e' with q | q | q | q | q
    · rw [q]; exact ⟨_, hz, fun v q => nomatch q⟩
    · rw [q]; exact ⟨_, hTI, fun v q => nomatch q⟩
    · rw [q]; exact ⟨_, hTO, fun v q => nomatch q⟩
    · rw [q]; exact h1.obj
    · rw [q]; exact h2.obj
  keep := fun i h h' st k => by
    obtain ⟨hz, hTI, ⟨b1, b2, hTO⟩, h1, h2⟩ := st
    exact ⟨k z (by simp) _ hz, k TI (by simp) _ hTI, ⟨b1, b2, k TO (by simp) _ hTO⟩, h1.move fun o q => k i1 (by simp) o q, h2.move fun o q => k i2 (by simp) o q⟩
  item := by
    intro X hP hw hK hc i pins s σ H E I hf st hg
    subst hP hw hK
    obtain ⟨hz, hTI, ⟨b1, b2, hTO⟩, h1, h2⟩ := st
    obtain ⟨xs1, xs2, x1, x2, n, hq1, hq2, el1, el2, hx1, hx2⟩ := hg
    obtain ⟨its1, rv1, p1, _⟩ := seqB_at I hq1
    obtain ⟨u1, hu1, ru1⟩ := rv1.get hx1
    have sz1 : its1.toArray.size = n := by rw [List.size_toArray, ← rv1.length]; exact el1
    have D1 := DZ.drawsB (prog := X.prog) (w := X.w) (A := X.A.in1) t1 (I.ok.hd hc) i1 a1 ne1 its1.toArray
    rw [sz1] at D1
    obtain ⟨its2, rv2, p2, _⟩ := seqB_at I hq2
    obtain ⟨u2, hu2, ru2⟩ := rv2.get hx2
    have sz2 : its2.toArray.size = n := by rw [List.size_toArray, ← rv2.length]; exact el2
    have D2 := DZ.drawsB (prog := X.prog) (w := X.w) (A := X.A.in1) t2 (I.ok.hd hc) i2 a2 ne2 its2.toArray
    rw [sz2] at D2
    have hin : i < n := by
      have := (List.getElem?_eq_some_iff.mp hx1).1
      omega
    have hzl : z < s.heap.objs.size := Heap.lt_size hz
    have hTy : s.TypeIs (.ref z) "zip" := ⟨_, hz, rfl⟩
    unfold pyNext
    refine wpAny_bind (wpAny_attempt (wpAny_callSpecial?_slot (name := Str.ofString "__next__") hTy F.slot_zip_next (wpAny_call_entry F.slot_zip_next hTy F.entry_zip_next
      (DZ.zS2_item D D1 D2 hz hTI hTO ⟨h1, p1⟩ ⟨h2, p2⟩ hin fun w1 w2 h' tk e1 e2 z' TO2 s1 s2 hT hsz hk => ?_) (F.args_zip_next_1 _))))
    have ew1 : w1 = u1 := by
      have z0 : its1.toArray[i]? = some u1 := by simpa using hu1
      exact Option.some.inj (e1.symm.trans z0)
    have ew2 : w2 = u2 := by
      have z0 : its2.toArray[i]? = some u2 := by simpa using hu2
      exact Option.some.inj (e2.symm.trans z0)
    subst ew1 ew2
    refine wpAny_pure ⟨_, rfl, DZ.goS (s := { s with heap := h', toks := tk }) z' fun hz2 z2 sb => ?_⟩
    have hT2 : hz2.get? s.heap.objs.size = some { cls := .type "tuple", data := .seq #[w1, w2] } := (sb.2 _ (Nat.ne_of_gt hzl)).trans hT
    have new : ObjOk X.prog X.w (upd H s.heap.objs.size (.tup [x1, x2])) hz2 s.heap.objs.size (.tup [x1, x2]) :=
      ⟨by show 2 ≤ sizeLine; decide, [w1, w2], .cons ru1 (.cons ru2 (.nil)), ⟨_, hT2, rfl, _, rfl⟩⟩
    have I1 : Inv X pins σ (upd H s.heap.objs.size (.tup [x1, x2])) { s with heap := hz2, toks := tk } :=
      I.turnedNew (t' := tk) (ch := [z, TI, TO, i1, i2]) (fun c o hb q => (sb.2 c (fun q' => hb (by simp [q']))).trans (hk c o (fun q' => hb (by simp [q'])) (fun q' => hb (by simp [q'])) (fun q' => hb (by simp [q'])) (fun q' => hb (by simp [q'])) q)) hf (Nat.le_refl _) new
    refine ⟨.ref s.heap.objs.size, _, I1, rfl, ⟨_, x1, x2, rfl, I.hok.fresh (Nat.le_refl _), rfl, fun l hl => by rw [seqB_inj I hl hq1]; exact hx1, fun l hl => by rw [seqB_inj I hl hq2]; exact hx2⟩, ⟨z2, ?_, ⟨w1, w2, ?_⟩, ?_, ?_⟩, fun c hcm => ?_⟩
    · exact (sb.2 _ D.TIz).trans (hk _ _ D.TIz D.TITO D.TIi1 D.TIi2 hTI)
    · exact (sb.2 _ D.TOz).trans TO2
    · exact s1.1.move fun o q => (sb.2 _ (Ne.symm D.zi1)).trans q
    · exact s2.1.move fun o q => (sb.2 _ (Ne.symm D.zi2)).trans q
    · have hlt : c < s.heap.objs.size := by
        have e' : c = z ∨ c = TI ∨ c = TO ∨ c = i1 ∨ c = i2 := by simpa using hcm
        rcases e' with q | q | q | q | q
        · rw [q]; exact hzl
        · rw [q]; exact Heap.lt_size hTI
        · rw [q]; exact Heap.lt_size hTO
        · rw [q]; obtain ⟨_, e1, _⟩ := h1.obj; exact Heap.lt_size e1
        · rw [q]; obtain ⟨_, e1, _⟩ := h2.obj; exact Heap.lt_size e1
      rw [upd_ne (Nat.ne_of_lt hlt)]
      exact (hf c hcm).1
  done := by
    intro X hP hw hK hc i pins s σ H E I hf st hg
    subst hP hw hK
    obtain ⟨hz, hTI, ⟨b1, b2, hTO⟩, h1, h2⟩ := st
    obtain ⟨xs1, xs2, hq1, hq2, el1, el2⟩ := hg
    obtain ⟨its1, rv1, p1, _⟩ := seqB_at I hq1
    have sz1 : its1.toArray.size = i := by rw [List.size_toArray, ← rv1.length]; exact el1
    have D1 := DZ.drawsB (prog := X.prog) (w := X.w) (A := X.A.in1) t1 (I.ok.hd hc) i1 a1 ne1 its1.toArray
    rw [sz1] at D1
    obtain ⟨its2, rv2, p2, _⟩ := seqB_at I hq2
    have sz2 : its2.toArray.size = i := by rw [List.size_toArray, ← rv2.length]; exact el2
    have D2 := DZ.drawsB (prog := X.prog) (w := X.w) (A := X.A.in1) t2 (I.ok.hd hc) i2 a2 ne2 its2.toArray
    rw [sz2] at D2
    have hTy : s.TypeIs (.ref z) "zip" := ⟨_, hz, rfl⟩
    unfold pyNext
    refine wpAny_bind (wpAny_attempt (wpAny_callSpecial?_slot (name := Str.ofString "__next__") hTy F.slot_zip_next (wpAny_call_entry F.slot_zip_next hTy F.entry_zip_next
      (DZ.zS2_end (A := X.A.in1) (I.ok.hd hc) D D1 D2 hz hTI ⟨h1, p1⟩ ⟨h2, p2⟩ fun h' tk e hk he => ?_) (F.args_zip_next_1 _))))
    obtain ⟨o, ho, hcl⟩ := he
    refine wpAny_bind (wpAny_isInstance (T := "StopIteration") (b := true) ⟨o, ho, hcl⟩ isSubtype_stop ?_)
    refine wpAny_pure ⟨rfl, I.turnedL (t' := tk) (ch := [z, TI, TO, i1, i2]) (fun c o hb q => hk c o (fun q' => hb (by simp [q'])) (fun q' => hb (by simp [q'])) (fun q' => hb (by simp [q'])) q) hf⟩
  self := fun A i s Q E st h => DZ.iterS st.1 h

theorem turnP2 {P : Program} {w : World} {K : PySem.W.Frag} {elts : List Expr} {kk : Nat} {tpos : Pos} {t1 t2 : Bool} {a1 a2 z TI TO i1 i2 : Addr} (D : ZipSep2 z TI TO i1 i2 [i1, a1] [i2, a2]) (ne1 : a1 ≠ i1) (ne2 : a2 ≠ i2) :
    Turn P w K (.Tuple elts kk tpos) (ItZ2 K t1 a1 t2 a2) [z, TI, TO, i1, i2] z (fun i h => DZ.IsZP h z TI TO .none false ∧ IsTupOf2 h TI (.ref i1) (.ref i2) ∧ (∃ b1 b2, IsTupOf2 h TO b1 b2) ∧ DZ.IterAt t1 h i1 a1 i ∧ DZ.IterAt t2 h i2 a2 i) where
  mem := by simp
  obj := fun i h st c hc => by
    obtain ⟨hz, hTI, ⟨b1, b2, hTO⟩, h1, h2⟩ := st
    have e' : c = z ∨ c = TI ∨ c = TO ∨ c = i1 ∨ c = i2 := by simpa using hc
    rcases e' with q | q | q | q | q
    · rw [q]; exact ⟨_, hz, fun v q => nomatch q⟩
    · rw [q]; exact ⟨_, hTI, fun v q => nomatch q⟩
    · rw [q]; exact ⟨_, hTO, fun v q => nomatch q⟩
    · rw [q]; exact h1.obj
    · rw [q]; exact h2.obj
  keep := fun i h h' st k => by
    obtain ⟨hz, hTI, ⟨b1, b2, hTO⟩, h1, h2⟩ := st
    exact ⟨k z (by simp) _ hz, k TI (by simp) _ hTI, ⟨b1, b2, k TO (by simp) _ hTO⟩, h1.move fun o q => k i1 (by simp) o q, h2.move fun o q => k i2 (by simp) o q⟩
  item := by
    intro X hP hw hK hc i pins s σ H E I hf st hg
    subst hP hw hK
    obtain ⟨hz, hTI, ⟨b1, b2, hTO⟩, h1, h2⟩ := st
    obtain ⟨xs1, xs2, x1, x2, n, hq1, hq2, el1, el2, hx1, hx2⟩ := hg
    obtain ⟨its1, rv1, p1, _⟩ := seqB_at I hq1
    obtain ⟨u1, hu1, ru1⟩ := rv1.get hx1
    have sz1 : its1.toArray.size = n := by rw [List.size_toArray, ← rv1.length]; exact el1
    have D1 := DZ.drawsB (prog := X.prog) (w := X.w) (A := X.A.in1) t1 (I.ok.hd hc) i1 a1 ne1 its1.toArray
    rw [sz1] at D1
    obtain ⟨its2, rv2, p2, _⟩ := seqB_at I hq2
    obtain ⟨u2, hu2, ru2⟩ := rv2.get hx2
    have sz2 : its2.toArray.size = n := by rw [List.size_toArray, ← rv2.length]; exact el2
    have D2 := DZ.drawsB (prog := X.prog) (w := X.w) (A := X.A.in1) t2 (I.ok.hd hc) i2 a2 ne2 its2.toArray
    rw [sz2] at D2
    have hin : i < n := by
      have := (List.getElem?_eq_some_iff.mp hx1).1
      omega
    have hzl : z < s.heap.objs.size := Heap.lt_size hz
    have hTy : s.TypeIs (.ref z) "zip" := ⟨_, hz, rfl⟩
    unfold pyNext
    refine wpAny_bind (wpAny_attempt (wpAny_callSpecial?_slot (name := Str.ofString "__next__") hTy F.slot_zip_next (wpAny_call_entry F.slot_zip_next hTy F.entry_zip_next
      (DZ.zP2_item D D1 D2 hz hTI hTO ⟨h1, p1⟩ ⟨h2, p2⟩ hin fun w1 w2 h' tk e1 e2 z' TO2 s1 s2 hT hsz hk => ?_) (F.args_zip_next_1 _))))
    have ew1 : w1 = u1 := by
      have z0 : its1.toArray[i]? = some u1 := by simpa using hu1
      exact Option.some.inj (e1.symm.trans z0)
    have ew2 : w2 = u2 := by
      have z0 : its2.toArray[i]? = some u2 := by simpa using hu2
      exact Option.some.inj (e2.symm.trans z0)
    subst ew1 ew2
    refine wpAny_pure ⟨_, rfl, DZ.goP (s := { s with heap := h', toks := tk }) z' fun hz2 z2 sb => ?_⟩
    have hT2 : hz2.get? s.heap.objs.size = some { cls := .type "tuple", data := .seq #[w1, w2] } := (sb.2 _ (Nat.ne_of_gt hzl)).trans hT
    have new : ObjOk X.prog X.w (upd H s.heap.objs.size (.tup [x1, x2])) hz2 s.heap.objs.size (.tup [x1, x2]) :=
      ⟨by show 2 ≤ sizeLine; decide, [w1, w2], .cons ru1 (.cons ru2 (.nil)), ⟨_, hT2, rfl, _, rfl⟩⟩
    have I1 : Inv X pins σ (upd H s.heap.objs.size (.tup [x1, x2])) { s with heap := hz2, toks := tk } :=
      I.turnedNew (t' := tk) (ch := [z, TI, TO, i1, i2]) (fun c o hb q => (sb.2 c (fun q' => hb (by simp [q']))).trans (hk c o (fun q' => hb (by simp [q'])) (fun q' => hb (by simp [q'])) (fun q' => hb (by simp [q'])) (fun q' => hb (by simp [q'])) q)) hf (Nat.le_refl _) new
    refine ⟨.ref s.heap.objs.size, _, I1, rfl, ⟨_, x1, x2, rfl, I.hok.fresh (Nat.le_refl _), rfl, fun l hl => by rw [seqB_inj I hl hq1]; exact hx1, fun l hl => by rw [seqB_inj I hl hq2]; exact hx2⟩, ⟨z2, ?_, ⟨w1, w2, ?_⟩, ?_, ?_⟩, fun c hcm => ?_⟩
    · exact (sb.2 _ D.TIz).trans (hk _ _ D.TIz D.TITO D.TIi1 D.TIi2 hTI)
    · exact (sb.2 _ D.TOz).trans TO2
    · exact s1.1.move fun o q => (sb.2 _ (Ne.symm D.zi1)).trans q
    · exact s2.1.move fun o q => (sb.2 _ (Ne.symm D.zi2)).trans q
    · have hlt : c < s.heap.objs.size := by
        have e' : c = z ∨ c = TI ∨ c = TO ∨ c = i1 ∨ c = i2 := by simpa using hcm
        rcases e' with q | q | q | q | q
        · rw [q]; exact hzl
        · rw [q]; exact Heap.lt_size hTI
        · rw [q]; exact Heap.lt_size hTO
        · rw [q]; obtain ⟨_, e1, _⟩ := h1.obj; exact Heap.lt_size e1
        · rw [q]; obtain ⟨_, e1, _⟩ := h2.obj; exact Heap.lt_size e1
      rw [upd_ne (Nat.ne_of_lt hlt)]
      exact (hf c hcm).1
  done := by
    intro X hP hw hK hc i pins s σ H E I hf st hg
    subst hP hw hK
    obtain ⟨hz, hTI, ⟨b1, b2, hTO⟩, h1, h2⟩ := st
    obtain ⟨xs1, xs2, hq1, hq2, el1, el2⟩ := hg
    obtain ⟨its1, rv1, p1, _⟩ := seqB_at I hq1
    have sz1 : its1.toArray.size = i := by rw [List.size_toArray, ← rv1.length]; exact el1
    have D1 := DZ.drawsB (prog := X.prog) (w := X.w) (A := X.A.in1) t1 (I.ok.hd hc) i1 a1 ne1 its1.toArray
    rw [sz1] at D1
    obtain ⟨its2, rv2, p2, _⟩ := seqB_at I hq2
    have sz2 : its2.toArray.size = i := by rw [List.size_toArray, ← rv2.length]; exact el2
    have D2 := DZ.drawsB (prog := X.prog) (w := X.w) (A := X.A.in1) t2 (I.ok.hd hc) i2 a2 ne2 its2.toArray
    rw [sz2] at D2
    have hTy : s.TypeIs (.ref z) "zip" := ⟨_, hz, rfl⟩
    unfold pyNext
    refine wpAny_bind (wpAny_attempt (wpAny_callSpecial?_slot (name := Str.ofString "__next__") hTy F.slot_zip_next (wpAny_call_entry F.slot_zip_next hTy F.entry_zip_next
      (DZ.zP2_end (A := X.A.in1) (I.ok.hd hc) D D1 D2 hz hTI ⟨h1, p1⟩ ⟨h2, p2⟩ fun h' tk e hk he => ?_) (F.args_zip_next_1 _))))
    obtain ⟨o, ho, hcl⟩ := he
    refine wpAny_bind (wpAny_isInstance (T := "StopIteration") (b := true) ⟨o, ho, hcl⟩ isSubtype_stop ?_)
    refine wpAny_pure ⟨rfl, I.turnedL (t' := tk) (ch := [z, TI, TO, i1, i2]) (fun c o hb q => hk c o (fun q' => hb (by simp [q'])) (fun q' => hb (by simp [q'])) (fun q' => hb (by simp [q'])) q) hf⟩
  self := fun A i s Q E st h => DZ.iterP st.1 h

/-- 3 sources of one length, the items in new tuples -/
def ItZ3 (K : PySem.W.Frag) (t1 : Bool) (a1 : Addr) (t2 : Bool) (a2 : Addr) (t3 : Bool) (a3 : Addr) : It :=
  ⟨fun i H => ∃ (xs1 xs2 xs3 : List V) (x1 x2 x3 : V) (n : Nat), SqB K t1 H a1 xs1 ∧ SqB K t2 H a2 xs2 ∧ SqB K t3 H a3 xs3 ∧ xs1.length = n ∧ xs2.length = n ∧ xs3.length = n ∧ xs1[i]? = some x1 ∧ xs2[i]? = some x2 ∧ xs3[i]? = some x3,
    fun i H v H' => ∃ (T : Addr) (x1 x2 x3 : V), v = .ref T ∧ H T = none ∧ H' = upd H T (.tup [x1, x2, x3]) ∧ (∀ xs, SqB K t1 H a1 xs → xs[i]? = some x1) ∧ (∀ xs, SqB K t2 H a2 xs → xs[i]? = some x2) ∧ (∀ xs, SqB K t3 H a3 xs → xs[i]? = some x3),
    fun i H => ∃ xs1 xs2 xs3 : List V, SqB K t1 H a1 xs1 ∧ SqB K t2 H a2 xs2 ∧ SqB K t3 H a3 xs3 ∧ xs1.length = i ∧ xs2.length = i ∧ xs3.length = i⟩
theorem turnS3 {P : Program} {w : World} {K : PySem.W.Frag} {elts : List Expr} {kk : Nat} {tpos : Pos} {t1 t2 t3 : Bool} {a1 a2 a3 z TI TO i1 i2 i3 : Addr} (D : ZipSep3 z TI TO i1 i2 i3 [i1, a1] [i2, a2] [i3, a3]) (ne1 : a1 ≠ i1) (ne2 : a2 ≠ i2) (ne3 : a3 ≠ i3) :
    Turn P w K (.Tuple elts kk tpos) (ItZ3 K t1 a1 t2 a2 t3 a3) [z, TI, TO, i1, i2, i3] z (fun i h => DZ.IsZS h z TI TO .none false ∧ IsTupOf3 h TI (.ref i1) (.ref i2) (.ref i3) ∧ (∃ b1 b2 b3, IsTupOf3 h TO b1 b2 b3) ∧ DZ.IterAt t1 h i1 a1 i ∧ DZ.IterAt t2 h i2 a2 i ∧ DZ.IterAt t3 h i3 a3 i) where
  mem := by simp
  obj := fun i h st c hc => by
    obtain ⟨hz, hTI, ⟨b1, b2, b3, hTO⟩, h1, h2, h3⟩ := st
    have e' : c = z ∨ c = TI ∨ c = TO ∨ c = i1 ∨ c = i2 ∨ c = i3 := by simpa using hc
    rcases e' with q | q | q | q | q | q
    · rw [q]; exact ⟨_, hz, fun v q => nomatch q⟩
    · rw [q]; exact ⟨_, hTI, fun v q => nomatch q⟩
    · rw [q]; exact ⟨_, hTO, fun v q => nomatch q⟩
    · rw [q]; exact h1.obj
    · rw [q]; exact h2.obj
    · rw [q]; exact h3.obj
  keep := fun i h h' st k => by
    obtain ⟨hz, hTI, ⟨b1, b2, b3, hTO⟩, h1, h2, h3⟩ := st
    exact ⟨k z (by simp) _ hz, k TI (by simp) _ hTI, ⟨b1, b2, b3, k TO (by simp) _ hTO⟩, h1.move fun o q => k i1 (by simp) o q, h2.move fun o q => k i2 (by simp) o q, h3.move fun o q => k i3 (by simp) o q⟩
  item := by
    intro X hP hw hK hc i pins s σ H E I hf st hg
    subst hP hw hK
    obtain ⟨hz, hTI, ⟨b1, b2, b3, hTO⟩, h1, h2, h3⟩ := st
    obtain ⟨xs1, xs2, xs3, x1, x2, x3, n, hq1, hq2, hq3, el1, el2, el3, hx1, hx2, hx3⟩ := hg
    obtain ⟨its1, rv1, p1, _⟩ := seqB_at I hq1
    obtain ⟨u1, hu1, ru1⟩ := rv1.get hx1
    have sz1 : its1.toArray.size = n := by rw [List.size_toArray, ← rv1.length]; exact el1
    have D1 := DZ.drawsB (prog := X.prog) (w := X.w) (A := X.A.in1) t1 (I.ok.hd hc) i1 a1 ne1 its1.toArray
    rw [sz1] at D1
    obtain ⟨its2, rv2, p2, _⟩ := seqB_at I hq2
    obtain ⟨u2, hu2, ru2⟩ := rv2.get hx2
    have sz2 : its2.toArray.size = n := by rw [List.size_toArray, ← rv2.length]; exact el2
    have D2 := DZ.drawsB (prog := X.prog) (w := X.w) (A := X.A.in1) t2 (I.ok.hd hc) i2 a2 ne2 its2.toArray
    rw [sz2] at D2
    obtain ⟨its3, rv3, p3, _⟩ := seqB_at I hq3
    obtain ⟨u3, hu3, ru3⟩ := rv3.get hx3
    have sz3 : its3.toArray.size = n := by rw [List.size_toArray, ← rv3.length]; exact el3
    have D3 := DZ.drawsB (prog := X.prog) (w := X.w) (A := X.A.in1) t3 (I.ok.hd hc) i3 a3 ne3 its3.toArray
    rw [sz3] at D3
    have hin : i < n := by
      have := (List.getElem?_eq_some_iff.mp hx1).1
      omega
    have hzl : z < s.heap.objs.size := Heap.lt_size hz
    have hTy : s.TypeIs (.ref z) "zip" := ⟨_, hz, rfl⟩
    unfold pyNext
    refine wpAny_bind (wpAny_attempt (wpAny_callSpecial?_slot (name := Str.ofString "__next__") hTy F.slot_zip_next (wpAny_call_entry F.slot_zip_next hTy F.entry_zip_next
      (DZ.zS3_item D D1 D2 D3 hz hTI hTO ⟨h1, p1⟩ ⟨h2, p2⟩ ⟨h3, p3⟩ hin fun w1 w2 w3 h' tk e1 e2 e3 z' TO2 s1 s2 s3 hT hsz hk => ?_) (F.args_zip_next_1 _))))
    have ew1 : w1 = u1 := by
      have z0 : its1.toArray[i]? = some u1 := by simpa using hu1
      exact Option.some.inj (e1.symm.trans z0)
    have ew2 : w2 = u2 := by
      have z0 : its2.toArray[i]? = some u2 := by simpa using hu2
      exact Option.some.inj (e2.symm.trans z0)
    have ew3 : w3 = u3 := by
      have z0 : its3.toArray[i]? = some u3 := by simpa using hu3
      exact Option.some.inj (e3.symm.trans z0)
    subst ew1 ew2 ew3
    refine wpAny_pure ⟨_, rfl, DZ.goS (s := { s with heap := h', toks := tk }) z' fun hz2 z2 sb => ?_⟩
    have hT2 : hz2.get? s.heap.objs.size = some { cls := .type "tuple", data := .seq #[w1, w2, w3] } := (sb.2 _ (Nat.ne_of_gt hzl)).trans hT
    have new : ObjOk X.prog X.w (upd H s.heap.objs.size (.tup [x1, x2, x3])) hz2 s.heap.objs.size (.tup [x1, x2, x3]) :=
      ⟨by show 3 ≤ sizeLine; decide, [w1, w2, w3], .cons ru1 (.cons ru2 (.cons ru3 (.nil))), ⟨_, hT2, rfl, _, rfl⟩⟩
    have I1 : Inv X pins σ (upd H s.heap.objs.size (.tup [x1, x2, x3])) { s with heap := hz2, toks := tk } :=
      I.turnedNew (t' := tk) (ch := [z, TI, TO, i1, i2, i3]) (fun c o hb q => (sb.2 c (fun q' => hb (by simp [q']))).trans (hk c o (fun q' => hb (by simp [q'])) (fun q' => hb (by simp [q'])) (fun q' => hb (by simp [q'])) (fun q' => hb (by simp [q'])) (fun q' => hb (by simp [q'])) q)) hf (Nat.le_refl _) new
    refine ⟨.ref s.heap.objs.size, _, I1, rfl, ⟨_, x1, x2, x3, rfl, I.hok.fresh (Nat.le_refl _), rfl, fun l hl => by rw [seqB_inj I hl hq1]; exact hx1, fun l hl => by rw [seqB_inj I hl hq2]; exact hx2, fun l hl => by rw [seqB_inj I hl hq3]; exact hx3⟩, ⟨z2, ?_, ⟨w1, w2, w3, ?_⟩, ?_, ?_, ?_⟩, fun c hcm => ?_⟩
    · exact (sb.2 _ D.TIz).trans (hk _ _ D.TIz D.TITO D.TIi1 D.TIi2 D.TIi3 hTI)
    · exact (sb.2 _ D.TOz).trans TO2
    · exact s1.1.move fun o q => (sb.2 _ (Ne.symm D.zi1)).trans q
    · exact s2.1.move fun o q => (sb.2 _ (Ne.symm D.zi2)).trans q
    · exact s3.1.move fun o q => (sb.2 _ (Ne.symm D.zi3)).trans q
    · have hlt : c < s.heap.objs.size := by
        have e' : c = z ∨ c = TI ∨ c = TO ∨ c = i1 ∨ c = i2 ∨ c = i3 := by simpa using hcm
        rcases e' with q | q | q | q | q | q
        · rw [q]; exact hzl
        · rw [q]; exact Heap.lt_size hTI
        · rw [q]; exact Heap.lt_size hTO
        · rw [q]; obtain ⟨_, e1, _⟩ := h1.obj; exact Heap.lt_size e1
        · rw [q]; obtain ⟨_, e1, _⟩ := h2.obj; exact Heap.lt_size e1
        · rw [q]; obtain ⟨_, e1, _⟩ := h3.obj; exact Heap.lt_size e1
      rw [upd_ne (Nat.ne_of_lt hlt)]
      exact (hf c hcm).1
  done := by
    intro X hP hw hK hc i pins s σ H E I hf st hg
    subst hP hw hK
    obtain ⟨hz, hTI, ⟨b1, b2, b3, hTO⟩, h1, h2, h3⟩ := st
    obtain ⟨xs1, xs2, xs3, hq1, hq2, hq3, el1, el2, el3⟩ := hg
    obtain ⟨its1, rv1, p1, _⟩ := seqB_at I hq1
    have sz1 : its1.toArray.size = i := by rw [List.size_toArray, ← rv1.length]; exact el1
    have D1 := DZ.drawsB (prog := X.prog) (w := X.w) (A := X.A.in1) t1 (I.ok.hd hc) i1 a1 ne1 its1.toArray
    rw [sz1] at D1
    obtain ⟨its2, rv2, p2, _⟩ := seqB_at I hq2
    have sz2 : its2.toArray.size = i := by rw [List.size_toArray, ← rv2.length]; exact el2
    have D2 := DZ.drawsB (prog := X.prog) (w := X.w) (A := X.A.in1) t2 (I.ok.hd hc) i2 a2 ne2 its2.toArray
    rw [sz2] at D2
    obtain ⟨its3, rv3, p3, _⟩ := seqB_at I hq3
    have sz3 : its3.toArray.size = i := by rw [List.size_toArray, ← rv3.length]; exact el3
    have D3 := DZ.drawsB (prog := X.prog) (w := X.w) (A := X.A.in1) t3 (I.ok.hd hc) i3 a3 ne3 its3.toArray
    rw [sz3] at D3
    have hTy : s.TypeIs (.ref z) "zip" := ⟨_, hz, rfl⟩
    unfold pyNext
    refine wpAny_bind (wpAny_attempt (wpAny_callSpecial?_slot (name := Str.ofString "__next__") hTy F.slot_zip_next (wpAny_call_entry F.slot_zip_next hTy F.entry_zip_next
      (DZ.zS3_end (A := X.A.in1) (I.ok.hd hc) D D1 D2 D3 hz hTI ⟨h1, p1⟩ ⟨h2, p2⟩ ⟨h3, p3⟩ fun h' tk e hk he => ?_) (F.args_zip_next_1 _))))
    obtain ⟨o, ho, hcl⟩ := he
    refine wpAny_bind (wpAny_isInstance (T := "StopIteration") (b := true) ⟨o, ho, hcl⟩ isSubtype_stop ?_)
    refine wpAny_pure ⟨rfl, I.turnedL (t' := tk) (ch := [z, TI, TO, i1, i2, i3]) (fun c o hb q => hk c o (fun q' => hb (by simp [q'])) (fun q' => hb (by simp [q'])) (fun q' => hb (by simp [q'])) (fun q' => hb (by simp [q'])) q) hf⟩
  self := fun A i s Q E st h => DZ.iterS st.1 h

theorem turnP3 {P : Program} {w : World} {K : PySem.W.Frag} {elts : List Expr} {kk : Nat} {tpos : Pos} {t1 t2 t3 : Bool} {a1 a2 a3 z TI TO i1 i2 i3 : Addr} (D : ZipSep3 z TI TO i1 i2 i3 [i1, a1] [i2, a2] [i3, a3]) (ne1 : a1 ≠ i1) (ne2 : a2 ≠ i2) (ne3 : a3 ≠ i3) :
    Turn P w K (.Tuple elts kk tpos) (ItZ3 K t1 a1 t2 a2 t3 a3) [z, TI, TO, i1, i2, i3] z (fun i h => DZ.IsZP h z TI TO .none false ∧ IsTupOf3 h TI (.ref i1) (.ref i2) (.ref i3) ∧ (∃ b1 b2 b3, IsTupOf3 h TO b1 b2 b3) ∧ DZ.IterAt t1 h i1 a1 i ∧ DZ.IterAt t2 h i2 a2 i ∧ DZ.IterAt t3 h i3 a3 i) where
  mem := by simp
  obj := fun i h st c hc => by
    obtain ⟨hz, hTI, ⟨b1, b2, b3, hTO⟩, h1, h2, h3⟩ := st
    have e' : c = z ∨ c = TI ∨ c = TO ∨ c = i1 ∨ c = i2 ∨ c = i3 := by simpa using hc
    rcases e' with q | q | q | q | q | q
    · rw [q]; exact ⟨_, hz, fun v q => nomatch q⟩
    · rw [q]; exact ⟨_, hTI, fun v q => nomatch q⟩
    · rw [q]; exact ⟨_, hTO, fun v q => nomatch q⟩
    · rw [q]; exact h1.obj
    · rw [q]; exact h2.obj
    · rw [q]; exact h3.obj
  keep := fun i h h' st k => by
    obtain ⟨hz, hTI, ⟨b1, b2, b3, hTO⟩, h1, h2, h3⟩ := st
    exact ⟨k z (by simp) _ hz, k TI (by simp) _ hTI, ⟨b1, b2, b3, k TO (by simp) _ hTO⟩, h1.move fun o q => k i1 (by simp) o q, h2.move fun o q => k i2 (by simp) o q, h3.move fun o q => k i3 (by simp) o q⟩
  item := by
    intro X hP hw hK hc i pins s σ H E I hf st hg
    subst hP hw hK
    obtain ⟨hz, hTI, ⟨b1, b2, b3, hTO⟩, h1, h2, h3⟩ := st
    obtain ⟨xs1, xs2, xs3, x1, x2, x3, n, hq1, hq2, hq3, el1, el2, el3, hx1, hx2, hx3⟩ := hg
    obtain ⟨its1, rv1, p1, _⟩ := seqB_at I hq1
    obtain ⟨u1, hu1, ru1⟩ := rv1.get hx1
    have sz1 : its1.toArray.size = n := by rw [List.size_toArray, ← rv1.length]; exact el1
    have D1 := DZ.drawsB (prog := X.prog) (w := X.w) (A := X.A.in1) t1 (I.ok.hd hc) i1 a1 ne1 its1.toArray
    rw [sz1] at D1
    obtain ⟨its2, rv2, p2, _⟩ := seqB_at I hq2
    obtain ⟨u2, hu2, ru2⟩ := rv2.get hx2
    have sz2 : its2.toArray.size = n := by rw [List.size_toArray, ← rv2.length]; exact el2
    have D2 := DZ.drawsB (prog := X.prog) (w := X.w) (A := X.A.in1) t2 (I.ok.hd hc) i2 a2 ne2 its2.toArray
    rw [sz2] at D2
    obtain ⟨its3, rv3, p3, _⟩ := seqB_at I hq3
    obtain ⟨u3, hu3, ru3⟩ := rv3.get hx3
    have sz3 : its3.toArray.size = n := by rw [List.size_toArray, ← rv3.length]; exact el3
    have D3 := DZ.drawsB (prog := X.prog) (w := X.w) (A := X.A.in1) t3 (I.ok.hd hc) i3 a3 ne3 its3.toArray
    rw [sz3] at D3
    have hin : i < n := by
      have := (List.getElem?_eq_some_iff.mp hx1).1
      omega
    have hzl : z < s.heap.objs.size := Heap.lt_size hz
    have hTy : s.TypeIs (.ref z) "zip" := ⟨_, hz, rfl⟩
    unfold pyNext
    refine wpAny_bind (wpAny_attempt (wpAny_callSpecial?_slot (name := Str.ofString "__next__") hTy F.slot_zip_next (wpAny_call_entry F.slot_zip_next hTy F.entry_zip_next
      (DZ.zP3_item D D1 D2 D3 hz hTI hTO ⟨h1, p1⟩ ⟨h2, p2⟩ ⟨h3, p3⟩ hin fun w1 w2 w3 h' tk e1 e2 e3 z' TO2 s1 s2 s3 hT hsz hk => ?_) (F.args_zip_next_1 _))))
    have ew1 : w1 = u1 := by
      have z0 : its1.toArray[i]? = some u1 := by simpa using hu1
      exact Option.some.inj (e1.symm.trans z0)
    have ew2 : w2 = u2 := by
      have z0 : its2.toArray[i]? = some u2 := by simpa using hu2
      exact Option.some.inj (e2.symm.trans z0)
    have ew3 : w3 = u3 := by
      have z0 : its3.toArray[i]? = some u3 := by simpa using hu3
      exact Option.some.inj (e3.symm.trans z0)
    subst ew1 ew2 ew3
    refine wpAny_pure ⟨_, rfl, DZ.goP (s := { s with heap := h', toks := tk }) z' fun hz2 z2 sb => ?_⟩
    have hT2 : hz2.get? s.heap.objs.size = some { cls := .type "tuple", data := .seq #[w1, w2, w3] } := (sb.2 _ (Nat.ne_of_gt hzl)).trans hT
    have new : ObjOk X.prog X.w (upd H s.heap.objs.size (.tup [x1, x2, x3])) hz2 s.heap.objs.size (.tup [x1, x2, x3]) :=
      ⟨by show 3 ≤ sizeLine; decide, [w1, w2, w3], .cons ru1 (.cons ru2 (.cons ru3 (.nil))), ⟨_, hT2, rfl, _, rfl⟩⟩
    have I1 : Inv X pins σ (upd H s.heap.objs.size (.tup [x1, x2, x3])) { s with heap := hz2, toks := tk } :=
      I.turnedNew (t' := tk) (ch := [z, TI, TO, i1, i2, i3]) (fun c o hb q => (sb.2 c (fun q' => hb (by simp [q']))).trans (hk c o (fun q' => hb (by simp [q'])) (fun q' => hb (by simp [q'])) (fun q' => hb (by simp [q'])) (fun q' => hb (by simp [q'])) (fun q' => hb (by simp [q'])) q)) hf (Nat.le_refl _) new
    refine ⟨.ref s.heap.objs.size, _, I1, rfl, ⟨_, x1, x2, x3, rfl, I.hok.fresh (Nat.le_refl _), rfl, fun l hl => by rw [seqB_inj I hl hq1]; exact hx1, fun l hl => by rw [seqB_inj I hl hq2]; exact hx2, fun l hl => by rw [seqB_inj I hl hq3]; exact hx3⟩, ⟨z2, ?_, ⟨w1, w2, w3, ?_⟩, ?_, ?_, ?_⟩, fun c hcm => ?_⟩
    · exact (sb.2 _ D.TIz).trans (hk _ _ D.TIz D.TITO D.TIi1 D.TIi2 D.TIi3 hTI)
    · exact (sb.2 _ D.TOz).trans TO2
    · exact s1.1.move fun o q => (sb.2 _ (Ne.symm D.zi1)).trans q
    · exact s2.1.move fun o q => (sb.2 _ (Ne.symm D.zi2)).trans q
    · exact s3.1.move fun o q => (sb.2 _ (Ne.symm D.zi3)).trans q
    · have hlt : c < s.heap.objs.size := by
        have e' : c = z ∨ c = TI ∨ c = TO ∨ c = i1 ∨ c = i2 ∨ c = i3 := by simpa using hcm
        rcases e' with q | q | q | q | q | q
        · rw [q]; exact hzl
        · rw [q]; exact Heap.lt_size hTI
        · rw [q]; exact Heap.lt_size hTO
        · rw [q]; obtain ⟨_, e1, _⟩ := h1.obj; exact Heap.lt_size e1
        · rw [q]; obtain ⟨_, e1, _⟩ := h2.obj; exact Heap.lt_size e1
        · rw [q]; obtain ⟨_, e1, _⟩ := h3.obj; exact Heap.lt_size e1
      rw [upd_ne (Nat.ne_of_lt hlt)]
      exact (hf c hcm).1
  done := by
    intro X hP hw hK hc i pins s σ H E I hf st hg
    subst hP hw hK
    obtain ⟨hz, hTI, ⟨b1, b2, b3, hTO⟩, h1, h2, h3⟩ := st
    obtain ⟨xs1, xs2, xs3, hq1, hq2, hq3, el1, el2, el3⟩ := hg
    obtain ⟨its1, rv1, p1, _⟩ := seqB_at I hq1
    have sz1 : its1.toArray.size = i := by rw [List.size_toArray, ← rv1.length]; exact el1
    have D1 := DZ.drawsB (prog := X.prog) (w := X.w) (A := X.A.in1) t1 (I.ok.hd hc) i1 a1 ne1 its1.toArray
    rw [sz1] at D1
    obtain ⟨its2, rv2, p2, _⟩ := seqB_at I hq2
    have sz2 : its2.toArray.size = i := by rw [List.size_toArray, ← rv2.length]; exact el2
    have D2 := DZ.drawsB (prog := X.prog) (w := X.w) (A := X.A.in1) t2 (I.ok.hd hc) i2 a2 ne2 its2.toArray
    rw [sz2] at D2
    obtain ⟨its3, rv3, p3, _⟩ := seqB_at I hq3
    have sz3 : its3.toArray.size = i := by rw [List.size_toArray, ← rv3.length]; exact el3
    have D3 := DZ.drawsB (prog := X.prog) (w := X.w) (A := X.A.in1) t3 (I.ok.hd hc) i3 a3 ne3 its3.toArray
    rw [sz3] at D3
    have hTy : s.TypeIs (.ref z) "zip" := ⟨_, hz, rfl⟩
    unfold pyNext
    refine wpAny_bind (wpAny_attempt (wpAny_callSpecial?_slot (name := Str.ofString "__next__") hTy F.slot_zip_next (wpAny_call_entry F.slot_zip_next hTy F.entry_zip_next
      (DZ.zP3_end (A := X.A.in1) (I.ok.hd hc) D D1 D2 D3 hz hTI ⟨h1, p1⟩ ⟨h2, p2⟩ ⟨h3, p3⟩ fun h' tk e hk he => ?_) (F.args_zip_next_1 _))))
    obtain ⟨o, ho, hcl⟩ := he
    refine wpAny_bind (wpAny_isInstance (T := "StopIteration") (b := true) ⟨o, ho, hcl⟩ isSubtype_stop ?_)
    refine wpAny_pure ⟨rfl, I.turnedL (t' := tk) (ch := [z, TI, TO, i1, i2, i3]) (fun c o hb q => hk c o (fun q' => hb (by simp [q'])) (fun q' => hb (by simp [q'])) (fun q' => hb (by simp [q'])) (fun q' => hb (by simp [q'])) q) hf⟩
  self := fun A i s Q E st h => DZ.iterP st.1 h

end DL

set_option Elab.async false
set_option linter.all false
set_option maxRecDepth 100000
set_option maxHeartbeats 4000000
set_option autoImplicit false
namespace DZ
open PySem PySem.Spec PySem.Calls PyProof.Rows PyProof.V L2 PySem.W
theorem len_zip : typeLookup (.type "zip") "__len__" = pure none := by rw [typeLookup_type, builtinLookup_eq_fast]; kernel_rfl
theorem hint_zip : typeLookup (.type "zip") "__length_hint__" = pure none := by rw [typeLookup_type, builtinLookup_eq_fast]; kernel_rfl
section
variable {prog : Program} {w : World} {A : Around} {E : Value → Shared → Prop} {s : Shared}
theorem zhint {z : Addr} (hT : s.TypeIs (.ref z) "zip") {Q : Bool → Shared → Prop} (h : Q true s) : wpAny (model prog w) A (Builtin.List.listLengthHint (.ref z)) Q E s := by
  unfold Builtin.List.listLengthHint
  refine wpAny_bind (wpAny_specialOf hT len_zip ?_)
  refine wpAny_ite_split (fun hab => absurd hab (by decide)) (fun _ => ?_)
  refine wpAny_ite_split (fun hab => absurd hab (by decide)) (fun _ => ?_)
  refine wpAny_bind (wpAny_specialOf hT hint_zip ?_)
  exact wpAny_pure h
end
theorem ItemsAt.move {t : Bool} {h h' : Heap} {l : Addr} {items : Array Value} (x : ItemsAt t h l items) (k : ∀ o, h.get? l = some o → h'.get? l = some o) : ItemsAt t h' l items := by
  cases t with
  | true => exact let ⟨o, ho, r⟩ := (show h.IsTuple l items from x); (show h'.IsTuple l items from ⟨o, k o ho, r⟩)
  | false => exact let ⟨o, ho, r⟩ := (show h.IsList l items from x); (show h'.IsList l items from ⟨o, k o ho, r⟩)
/-- a zip whose items go into the list that is being made at S: each a new tuple -/
structure Yields (prog : Program) (w : World) (A : Around) (z S : Addr) (ch : List Addr) (tps : List (List Value)) (St : Nat → Heap → Prop) : Prop where
  ty : ∀ i h, St i h → ∃ o, h.get? z = some o ∧ o.cls = .type "zip"
  below : ∀ c ∈ ch, c < S
  frame : ∀ i h h', St i h → (∀ b o, b ≠ S → h.get? b = some o → h'.get? b = some o) → St i h'
  iter : ∀ (A : Around) (i : Nat) (s : Shared) (Q : Value → Shared → Prop) (E : Value → Shared → Prop), St i s.heap → Q (.ref z) s → wpAny (model prog w) A (pyIter (.ref z)) Q E s
  item : ∀ (i : Nat) (s : Shared) (Q : Option Value → Shared → Prop) (E : Value → Shared → Prop) (t : List Value), tps[i]? = some t → St i s.heap → S < s.heap.objs.size →
    (∀ h' tk, St (i + 1) h' → h'.get? s.heap.objs.size = some { cls := .type "tuple", data := .seq t.toArray } → h'.objs.size = s.heap.objs.size + 1 → (∀ b o, b ∉ ch → s.heap.get? b = some o → h'.get? b = some o) → Q (some (.ref s.heap.objs.size)) { s with heap := h', toks := tk }) →
    wpAny (model prog w) A (pyNext (.ref z)) Q E s
  done : ∀ (s : Shared) (Q : Option Value → Shared → Prop) (E : Value → Shared → Prop), St tps.length s.heap → (∀ h' tk, (∀ b o, b ∉ ch → s.heap.get? b = some o → h'.get? b = some o) → Q none { s with heap := h', toks := tk }) → wpAny (model prog w) A (pyNext (.ref z)) Q E s
structure Laid (tps : List (List Value)) (lo : Addr) (h : Heap) (as : List Addr) : Prop where
  rise : as.Pairwise (· < ·)
  above : ∀ a ∈ as, lo < a
  tups : ∀ (j : Nat) (a : Addr), as[j]? = some a → ∃ t, tps[j]? = some t ∧ h.get? a = some { cls := .type "tuple", data := .seq t.toArray }
theorem Laid.there {tps : List (List Value)} {lo : Addr} {h : Heap} {as : List Addr} (g : Laid tps lo h as) {a : Addr} (ha : a ∈ as) : a < h.objs.size := by
  obtain ⟨j, hj⟩ := List.mem_iff_getElem?.mp ha
  obtain ⟨_, _, e⟩ := g.tups j a hj
  exact Heap.lt_size e
section
variable {prog : Program} {w : World} {A : Around} {s : Shared} {R : Result → Shared → Prop} {tps : List (List Value)} {z S : Addr} {ch : List Addr} {St : Nat → Heap → Prop}
theorem zl_loop (Y : Yields prog w A.in1 z S ch tps St) (hn : tps.length ≤ sizeLine) (res : Value) {h₁ : Heap} (hz : z ∈ ch)
    (hR : ∀ h' tk acc c as, (∀ b o, b ≠ S → b ∉ ch → h₁.get? b = some o → h'.get? b = some o) → h'.get? S = some { cls := .type "list", dict := none, data := .seq acc c, slots := #[] } → as.length = tps.length → Laid tps S h' as →
      acc.toList = as.map Value.ref → R (.ok (.ret res)) { s with heap := h', toks := tk }) :
    ∀ (k i : Nat) (h : Heap) (tk c : Nat) (acc : Array Value) (as : List Addr), tps.length - i = k → i ≤ tps.length → St i h → (∀ b o, b ≠ S → b ∉ ch → h₁.get? b = some o → h.get? b = some o) →
      h.get? S = some { cls := .type "list", dict := none, data := .seq acc c, slots := #[] } → acc.toList = as.map Value.ref → as.length = i → Laid tps S h as →
      codeAny (model prog w) A (.builtin "list.extend.loop" ⟨[.ref S, .ref z, res], []⟩) R { s with heap := h, toks := tk } := by
  have nS : S ∉ ch := fun q => Nat.lt_irrefl _ (Y.below _ q)
  intro k
  induction k with
  | zero =>
    intro i h tk c acc as hk hi hst hkeep hS hacc hal hG
    have hin : i = tps.length := by omega
    refine codeAny_builtin PySem.F.entry_extend_loop ?_
    rw [Around.under_plainId PySem.F.plain_extend_loop _]
    show wpAny _ A.in1 (pyNext (.ref z) >>= _) _ _ _
    refine wpAny_bind (Y.done { s with heap := h, toks := tk } _ _ (hin ▸ hst) fun h' tk' he => ?_)
    refine wpAny_pure (hR h' tk' acc c as (fun b o h1 h2 e => he b o h2 (hkeep b o h1 h2 e)) (he S _ nS hS) (by omega) ⟨hG.rise, hG.above, fun j a hj => ?_⟩ hacc)
    obtain ⟨t, e1, e3⟩ := hG.tups j a hj
    exact ⟨t, e1, he a _ (fun q => Nat.lt_asymm (hG.above a (List.mem_of_getElem? hj)) (Y.below a q)) e3⟩
  | succ k ih =>
    intro i h tk c acc as hk hi hst hkeep hS hacc hal hG
    have hlt : i < tps.length := by omega
    have hsz : acc.size = i := by rw [← Array.length_toList, hacc, List.length_map, hal]
    have hSl : S < h.objs.size := Heap.lt_size hS
    refine codeAny_builtin PySem.F.entry_extend_loop ?_
    rw [Around.under_plainId PySem.F.plain_extend_loop _]
    show wpAny _ A.in1 (pyNext (.ref z) >>= _) _ _ _
    refine wpAny_bind (Y.item i { s with heap := h, toks := tk } _ _ tps[i] (List.getElem?_eq_getElem hlt) hst hSl fun h' tk' hst' ht hz hkp => ?_)
    dsimp only at ht hz hkp ⊢
    have hS' := hkp S _ nS hS
    have up : ∀ b o, b ≠ S → h'.get? b = some o → (h'.update S (Obj.mapSeq (·.push (Value.ref h.objs.size)))).get? b = some o := fun b o hb e => (Heap.get?_update_other _ _ (Ne.symm hb)).trans e
    show wpAny _ A.in1 (updateSeq S (·.push (Value.ref h.objs.size)) >>= _) _ _ _
    refine wpAny_bind ?_
    refine wpAny_updateSeq hS' rfl (wpAny_pure ⟨plainId_quiet PySem.F.plain_extend_loop _, ih (i + 1) _ tk' _ (acc.push (Value.ref h.objs.size)) (as ++ [h.objs.size]) (by omega) hlt (Y.frame _ _ _ hst' up)
      (fun b o h1 h2 e => up b o h1 (hkp b o h2 (hkeep b o h1 h2 e))) (Heap.get?_update_self _ hS' rfl) (by rw [Array.toList_push, hacc, List.map_append]; rfl) (by rw [List.length_append, hal]; rfl) ⟨?_, ?_, ?_⟩⟩) (by rw [hsz]; omega) (by show (acc.push (Value.ref h.objs.size)).size ≤ sizeLine + 1; rw [Array.size_push, hsz]; omega)
    · refine List.pairwise_append.mpr ⟨hG.rise, List.pairwise_singleton _ _, fun a ha b hb => ?_⟩
      rw [List.mem_singleton.mp hb]
      exact hG.there ha
    · intro a ha
      rcases List.mem_append.mp ha with ha | ha
      · exact hG.above a ha
      · rw [List.mem_singleton.mp ha]; exact hSl
    · intro j b hj
      rcases Nat.lt_trichotomy j as.length with h1 | h1 | h1
      · rw [List.getElem?_append_left h1] at hj
        obtain ⟨t, e1, e3⟩ := hG.tups j b hj
        have hb := hG.above b (List.mem_of_getElem? hj)
        exact ⟨t, e1, up b _ (Nat.ne_of_gt hb) (hkp b _ (fun q => Nat.lt_asymm hb (Y.below b q)) e3)⟩
      · subst h1
        have hb : h.objs.size = b := by simpa using hj
        subst hb
        exact ⟨tps[i], by rw [hal]; exact List.getElem?_eq_getElem hlt, up _ _ (Nat.ne_of_gt hSl) ht⟩
      · have hnone : (as ++ [h.objs.size])[j]? = none := List.getElem?_eq_none (by rw [List.length_append, List.length_singleton]; omega)
        rw [hnone] at hj; cases hj
end
section
variable {prog : Program} {w : World} {A : Around} {E : Value → Shared → Prop} {s : Shared} {tps : List (List Value)} {z S : Addr} {ch : List Addr} {St : Nat → Heap → Prop}
theorem zl_extend {R : Result → Shared → Prop} (Y : Yields prog w A.in1 z S ch tps St) (hn : tps.length ≤ sizeLine) (hz : z ∈ ch) (st : St 0 s.heap) (res : Value) (c₀ : Nat) (hS : s.heap.get? S = some { cls := .type "list", data := .seq #[] c₀ })
    (hR : ∀ h' tk acc c as, (∀ b o, b ≠ S → b ∉ ch → s.heap.get? b = some o → h'.get? b = some o) → h'.get? S = some { cls := .type "list", dict := none, data := .seq acc c, slots := #[] } → as.length = tps.length → Laid tps S h' as →
      acc.toList = as.map Value.ref → R (.ok (.ret res)) { s with heap := h', toks := tk }) :
    wpAny (model prog w) A.in1 (Builtin.List.listExtendWith (.ref S) (.ref z) res)
      (fun fin s' => match fin with | .done f => R (.ok f) s' | .again c' => c'.quiet = true ∧ codeAny (model prog w) A c' R s') (fun e s' => R (.error e) s') s := by
  have hSz : S ≠ z := Ne.symm (Nat.ne_of_lt (Y.below z hz))
  have key : ∀ (h : Heap) (c₁ tk : Nat), (∀ b o, b ≠ S → s.heap.get? b = some o → h.get? b = some o) →
      h.get? S = some { cls := .type "list", data := .seq #[] c₁ } → codeAny (model prog w) A (.builtin "list.extend.loop" ⟨[.ref S, .ref z, res], []⟩) R { s with heap := h, toks := tk } := by
    intro h c₁ tk hk hS₁
    exact zl_loop (s := s) Y hn res (h₁ := s.heap) hz hR tps.length 0 h tk c₁ #[] [] (Nat.sub_zero _) (Nat.zero_le _) (Y.frame _ _ _ st hk) (fun b o hb _ e => hk b o hb e) hS₁ rfl rfl
      ⟨List.Pairwise.nil, (fun _ ha => nomatch ha), (fun j a hj => by simp at hj)⟩
  have hT : s.TypeIs (.ref z) "zip" := Y.ty _ _ st
  unfold Builtin.List.listExtendWith
  refine wpAny_bind (wpAny_typeOf (T := "zip") hT ?_)
  have h1 : Builtin.List.listSameRef (.ref S) (.ref z) = false := by simp [Builtin.List.listSameRef, hSz]
  have h2 : (Value.type "zip" == Value.type "list") = false := by decide
  have h3 : (Value.type "zip" == Value.type "tuple") = false := by decide
  simp only [h1, h2, h3, Bool.or_false, Bool.false_eq_true, if_false]
  refine wpAny_bind (Y.iter _ 0 s _ _ st ?_)
  refine wpAny_bind (wpAny_holding (zhint hT ?_))
  refine wpAny_ite_split (fun _ => ?_) (fun _ => wpAny_pure ⟨plainId_quiet PySem.F.plain_extend_loop _, key _ c₀ _ (fun b o _ e => e) hS⟩)
  refine wpAny_bind (wpAny_rule ?_)
  refine wpAny_bind ?_
  show wpAny _ _ (updateSeq S (·.push .none) >>= fun _ => updateSeq S (·.pop)) _ _ _
  refine wpAny_bind (wpAny_updateSeq hS rfl ?_)
  have hS₂ := Heap.get?_update_self (Obj.mapSeq (·.push Value.none)) hS rfl
  refine wpAny_updateSeq (hz := by seq_fits) hS₂ rfl ?_
  have hS₃ := Heap.get?_update_self (Obj.mapSeq (·.pop)) hS₂ rfl
  refine wpAny_pure ⟨plainId_quiet PySem.F.plain_extend_loop _, key _ _ _ (fun b o hb e => ?_) hS₃⟩
  exact (Heap.get?_update_other _ _ (Ne.symm hb)).trans ((Heap.get?_update_other _ _ (Ne.symm hb)).trans e)
theorem zl_init {R : Result → Shared → Prop} (Y : Yields prog w A.in1 z S ch tps St) (hn : tps.length ≤ sizeLine) (hz : z ∈ ch) (st : St 0 s.heap) (hS : s.heap.get? S = some { cls := .type "list", data := .seq #[] })
    (hR : ∀ h' tk acc c as, (∀ b o, b ≠ S → b ∉ ch → s.heap.get? b = some o → h'.get? b = some o) → h'.get? S = some { cls := .type "list", dict := none, data := .seq acc c, slots := #[] } → as.length = tps.length → Laid tps S h' as →
      acc.toList = as.map Value.ref → R (.ok (.ret .none)) { s with heap := h', toks := tk }) :
    wpAny (model prog w) A.in1 (Builtin.«list.__init__» ⟨[.ref S, .ref z], []⟩)
      (fun fin s' => match fin with | .done f => R (.ok f) s' | .again c' => c'.quiet = true ∧ codeAny (model prog w) A c' R s') (fun e s' => R (.error e) s') s := by
  show wpAny _ _ (do let old ← Builtin.List.listItems (.ref S); Builtin.List.listUpdate (.ref S) (fun _ => #[]); letGo old.toList.reverse; Builtin.List.listExtendWith (.ref S) (.ref z) .none) _ _ s
  refine wpAny_bind ?_
  unfold Builtin.List.listItems
  refine wpAny_bind (wpAny_seqItems hS rfl (wpAny_pure ?_))
  show wpAny _ _ (updateSeq S (fun _ => #[]) >>= fun _ => letGo (#[] : Array Value).toList.reverse >>= fun _ => Builtin.List.listExtendWith (.ref S) (.ref z) .none) _ _ s
  refine wpAny_bind (wpAny_updateSeq hS rfl ?_)
  have hS₂ := Heap.get?_update_self (Obj.mapSeq (fun _ => (#[] : Array Value))) hS rfl
  have oth : ∀ b o, b ≠ S → s.heap.get? b = some o → (s.heap.update S (Obj.mapSeq (fun _ => (#[] : Array Value)))).get? b = some o :=
    fun b o hb e => (Heap.get?_update_other _ _ (Ne.symm hb)).trans e
  refine wpAny_bind (wpAny_letGo ?_)
  refine zl_extend Y hn hz (Y.frame _ _ _ st oth) .none _ hS₂ (fun h' tk acc c as hk hS' hl hG hacc => ?_)
  exact hR h' tk acc c as (fun b o hb hc e => hk b o hb hc (oth b o hb e)) hS' hl hG hacc
theorem zl_call {Q : Value → Shared → Prop} (Y : Yields prog w A.in1.in1 z s.heap.objs.size ch tps St) (hn : tps.length ≤ sizeLine) (hz : z ∈ ch) (st : ∀ o, St 0 (s.heap.push o))
    (hQ : ∀ h' tk acc c as, (∀ b o, b ∉ ch → s.heap.get? b = some o → h'.get? b = some o) → h'.get? s.heap.objs.size = some { cls := .type "list", dict := none, data := .seq acc c, slots := #[] } → as.length = tps.length → Laid tps s.heap.objs.size h' as →
      acc.toList = as.map Value.ref → Q (.ref s.heap.objs.size) { s with heap := h', toks := tk }) :
    wpAny (model prog w) A (call (.type "list") [.ref z]) Q E s := by
  refine callType_codes (Q₁ := fun obj s₁ => obj = .ref s.heap.objs.size ∧ s₁ = { s with heap := s.heap.push { cls := .type "list", data := .seq #[] } }) PySem.F.called_list (PySem.F.typeCall_list_1 _) PySem.F.entry_list_init
    (code_list_new _ ⟨rfl, rfl⟩) fun obj s₁ h₁ => ?_
  obtain ⟨rfl, rfl⟩ := h₁
  have hS : (s.heap.push { cls := .type "list", data := .seq #[] }).get? s.heap.objs.size = some { cls := .type "list", data := .seq #[] } := Heap.get?_push_size _ rfl
  refine ⟨⟨_, hS, rfl⟩, PySem.F.args_list_init_2 _ _, zl_init (A := A.in1) (s := { s with heap := s.heap.push { cls := .type "list", data := .seq #[] } }) Y hn hz (st _) hS (fun h' tk acc c as hk hS' hl hG hacc => ?_)⟩
  exact ⟨rfl, hQ h' tk acc c as (fun b o hc e => hk b o (Nat.ne_of_lt (Heap.lt_size e)) hc (Heap.get?_push_of_some _ e)) hS' hl hG hacc⟩
end

section
variable {prog : Program} {w : World} {A : Around} {t1 t2 : Bool} {a1 a2 z TI TO i1 i2 S : Addr} {xs1 xs2 : List Value}
def tp2 (xs1 : List Value) (xs2 : List Value) : List (List Value) := List.zipWith (fun a b => [a, b]) xs1 xs2
theorem yieldsS2 (D : ZipSep2 z TI TO i1 i2 [i1, a1] [i2, a2]) (ne1 : a1 ≠ i1) (ne2 : a2 ≠ i2) (hh : A.handled = none) (m : Nat) (l1 : xs1.length = m) (l2 : xs2.length = m)
    (lz : z < S) (lTI : TI < S) (lTO : TO < S) (li1 : i1 < S) (la1 : a1 < S) (li2 : i2 < S) (la2 : a2 < S) :
    Yields prog w A z S [z, TO, i1, i2] (tp2 xs1 xs2) (fun i h => ((i = 0 ∧ IsZS h z TI TO .none false ∧ ∃ b1 b2, IsTupOf2 h TO b1 b2) ∨ ∃ (T : Addr) (f : Bool) (o : Obj), IsZS h z TI TO (rawInt T) f ∧ h.get? T = some o ∧ T ≠ S ∧ T ≠ z ∧ T ≠ i1 ∧ T ≠ i2) ∧ IsTupOf2 h TI (.ref i1) (.ref i2) ∧ (IterAt t1 h i1 a1 i ∧ ItemsAt t1 h a1 xs1.toArray) ∧ (IterAt t2 h i2 a2 i ∧ ItemsAt t2 h a2 xs2.toArray)) where
  ty := fun i h st => by
    obtain ⟨(⟨_, hz, _⟩ | ⟨T, f, o, hz, _⟩), _⟩ := st
    · exact ⟨_, hz, rfl⟩
    · exact ⟨_, hz, rfl⟩
  below := fun c hc => by
    have e : c = z ∨ c = TO ∨ c = i1 ∨ c = i2 := by simpa using hc
    rcases e with q | q | q | q <;> rw [q] <;> assumption
  frame := fun i h h' st k => by
    obtain ⟨hz, hTI, ⟨h1, p1⟩, ⟨h2, p2⟩⟩ := st
    have up : ∀ c o, c < S → h.get? c = some o → h'.get? c = some o := fun c o hc e => k c o (Nat.ne_of_lt hc) e
    refine ⟨?_, up _ _ lTI hTI, ⟨h1.move fun o q => up _ _ li1 q, ItemsAt.move p1 fun o q => up _ _ la1 q⟩, ⟨h2.move fun o q => up _ _ li2 q, ItemsAt.move p2 fun o q => up _ _ la2 q⟩⟩
    rcases hz with ⟨e, hz, b1, b2, hTO⟩ | ⟨T, f, o, hz, hT, n1, n2, m1, m2⟩
    · exact .inl ⟨e, up _ _ lz hz, b1, b2, up _ _ lTO hTO⟩
    · exact .inr ⟨T, f, o, up _ _ lz hz, k T o n1 hT, n1, n2, m1, m2⟩
  iter := fun A i s Q E st h => by
    obtain ⟨(⟨_, hz, _⟩ | ⟨T, f, o, hz, _⟩), _⟩ := st
    · exact iterS hz h
    · exact iterS hz h
  item := fun i s Q E t ht st hSl hQ => by
    obtain ⟨hz, hTI, ⟨h1, p1⟩, ⟨h2, p2⟩⟩ := st
    have hlt : i < m := by
      have q := (List.getElem?_eq_some_iff.mp ht).1
      unfold tp2 at q
      simp only [List.length_zipWith] at q
      omega
    have D1 := drawsB (prog := prog) (w := w) (A := A.in1) t1 hh i1 a1 ne1 xs1.toArray
    rw [show xs1.toArray.size = m by rw [List.size_toArray]; exact l1] at D1
    have g1 : xs1[i]? = some xs1[i] := List.getElem?_eq_getElem (by omega)
    have D2 := drawsB (prog := prog) (w := w) (A := A.in1) t2 hh i2 a2 ne2 xs2.toArray
    rw [show xs2.toArray.size = m by rw [List.size_toArray]; exact l2] at D2
    have g2 : xs2[i]? = some xs2[i] := List.getElem?_eq_getElem (by omega)
    have et : t = [xs1[i], xs2[i]] := by
      unfold tp2 at ht
      simp only [List.getElem?_zipWith, g1, g2] at ht
      exact (Option.some.inj ht).symm
    subst et
    unfold pyNext
    rcases hz with ⟨_, hz, b1, b2, hTO⟩ | ⟨T, f, oT, hz, hT, n1, n2, m1, m2⟩
    · have hTy : s.TypeIs (.ref z) "zip" := ⟨_, hz, rfl⟩
      refine wpAny_bind (wpAny_attempt (wpAny_callSpecial?_slot (name := Str.ofString "__next__") hTy F.slot_zip_next (wpAny_call_entry F.slot_zip_next hTy F.entry_zip_next
        (zS2_item D D1 D2 hz hTI hTO ⟨h1, p1⟩ ⟨h2, p2⟩ hlt fun w1 w2 h' tk e1 e2 z' TO2 s1 s2 hT hsz hk => ?_) (F.args_zip_next_1 _))))
      have ew1 : w1 = xs1[i] := by
        have z0 : xs1.toArray[i]? = some xs1[i] := by simpa using g1
        exact Option.some.inj (e1.symm.trans z0)
      have ew2 : w2 = xs2[i] := by
        have z0 : xs2.toArray[i]? = some xs2[i] := by simpa using g2
        exact Option.some.inj (e2.symm.trans z0)
      subst ew1 ew2
      have hzl : z < s.heap.objs.size := Heap.lt_size hz
      refine wpAny_pure (hQ h' tk ⟨.inr ⟨s.heap.objs.size, false, _, z', hT, Nat.ne_of_gt hSl, Nat.ne_of_gt hzl, Nat.ne_of_gt (Nat.lt_trans li1 hSl), Nat.ne_of_gt (Nat.lt_trans li2 hSl)⟩, hk _ _ D.TIz D.TITO D.TIi1 D.TIi2 hTI, s1, s2⟩ hT hsz fun b o hb e => hk b o (fun q => hb (by simp [q])) (fun q => hb (by simp [q])) (fun q => hb (by simp [q])) (fun q => hb (by simp [q])) e)
    · have hTy : s.TypeIs (.ref z) "zip" := ⟨_, hz, rfl⟩
      refine wpAny_bind (wpAny_attempt (wpAny_callSpecial?_slot (name := Str.ofString "__next__") hTy F.slot_zip_next (wpAny_call_entry F.slot_zip_next hTy F.entry_zip_next
        (zS2_itemH D D1 D2 hz hT hTI ⟨h1, p1⟩ ⟨h2, p2⟩ hlt fun w1 w2 h' tk e1 e2 z' s1 s2 hT2 hsz hk => ?_) (F.args_zip_next_1 _))))
      have ew1 : w1 = xs1[i] := by
        have z0 : xs1.toArray[i]? = some xs1[i] := by simpa using g1
        exact Option.some.inj (e1.symm.trans z0)
      have ew2 : w2 = xs2[i] := by
        have z0 : xs2.toArray[i]? = some xs2[i] := by simpa using g2
        exact Option.some.inj (e2.symm.trans z0)
      subst ew1 ew2
      refine wpAny_pure (hQ h' tk ⟨.inr ⟨T, true, oT, z', hk _ _ n2 m1 m2 hT, n1, n2, m1, m2⟩, hk _ _ D.TIz D.TIi1 D.TIi2 hTI, s1, s2⟩ hT2 hsz fun b o hb e => hk b o (fun q => hb (by simp [q])) (fun q => hb (by simp [q])) (fun q => hb (by simp [q])) e)
  done := fun s Q E st hQ => by
    obtain ⟨hz, hTI, ⟨h1, p1⟩, ⟨h2, p2⟩⟩ := st
    have hm : (tp2 xs1 xs2).length = m := by
      unfold tp2
      simp only [List.length_zipWith]
      omega
    rw [hm] at h1
    have D1 := drawsB (prog := prog) (w := w) (A := A.in1) t1 hh i1 a1 ne1 xs1.toArray
    rw [show xs1.toArray.size = m by rw [List.size_toArray]; exact l1] at D1
    rw [hm] at h2
    have D2 := drawsB (prog := prog) (w := w) (A := A.in1) t2 hh i2 a2 ne2 xs2.toArray
    rw [show xs2.toArray.size = m by rw [List.size_toArray]; exact l2] at D2
    unfold pyNext
    rcases hz with ⟨_, hz, b1, b2, hTO⟩ | ⟨T, f, oT, hz, hT, n1, n2, m1, m2⟩
    · have hTy : s.TypeIs (.ref z) "zip" := ⟨_, hz, rfl⟩
      refine wpAny_bind (wpAny_attempt (wpAny_callSpecial?_slot (name := Str.ofString "__next__") hTy F.slot_zip_next (wpAny_call_entry F.slot_zip_next hTy F.entry_zip_next
        (zS2_end (A := A.in1) hh D D1 D2 hz hTI ⟨h1, p1⟩ ⟨h2, p2⟩ fun h' tk e hk he => ?_) (F.args_zip_next_1 _))))
      obtain ⟨o, ho, hcl⟩ := he
      refine wpAny_bind (wpAny_isInstance (T := "StopIteration") (b := true) ⟨o, ho, hcl⟩ isSubtype_stop ?_)
      exact wpAny_pure (hQ h' tk fun b o hb e => hk b o (fun q => hb (by simp [q])) (fun q => hb (by simp [q])) (fun q => hb (by simp [q])) e)
    · have hTy : s.TypeIs (.ref z) "zip" := ⟨_, hz, rfl⟩
      refine wpAny_bind (wpAny_attempt (wpAny_callSpecial?_slot (name := Str.ofString "__next__") hTy F.slot_zip_next (wpAny_call_entry F.slot_zip_next hTy F.entry_zip_next
        (zS2_endH (A := A.in1) hh D D1 D2 hz hT hTI ⟨h1, p1⟩ ⟨h2, p2⟩ fun h' tk e hk he => ?_) (F.args_zip_next_1 _))))
      obtain ⟨o, ho, hcl⟩ := he
      refine wpAny_bind (wpAny_isInstance (T := "StopIteration") (b := true) ⟨o, ho, hcl⟩ isSubtype_stop ?_)
      exact wpAny_pure (hQ h' tk fun b o hb e => hk b o (fun q => hb (by simp [q])) (fun q => hb (by simp [q])) (fun q => hb (by simp [q])) e)
end

section
variable {prog : Program} {w : World} {A : Around} {t1 t2 t3 : Bool} {a1 a2 a3 z TI TO i1 i2 i3 S : Addr} {xs1 xs2 xs3 : List Value}
def tp3 (xs1 : List Value) (xs2 : List Value) (xs3 : List Value) : List (List Value) := List.zipWith (fun a l => a :: l) xs1 (List.zipWith (fun a b => [a, b]) xs2 xs3)
theorem yieldsS3 (D : ZipSep3 z TI TO i1 i2 i3 [i1, a1] [i2, a2] [i3, a3]) (ne1 : a1 ≠ i1) (ne2 : a2 ≠ i2) (ne3 : a3 ≠ i3) (hh : A.handled = none) (m : Nat) (l1 : xs1.length = m) (l2 : xs2.length = m) (l3 : xs3.length = m)
    (lz : z < S) (lTI : TI < S) (lTO : TO < S) (li1 : i1 < S) (la1 : a1 < S) (li2 : i2 < S) (la2 : a2 < S) (li3 : i3 < S) (la3 : a3 < S) :
    Yields prog w A z S [z, TO, i1, i2, i3] (tp3 xs1 xs2 xs3) (fun i h => ((i = 0 ∧ IsZS h z TI TO .none false ∧ ∃ b1 b2 b3, IsTupOf3 h TO b1 b2 b3) ∨ ∃ (T : Addr) (f : Bool) (o : Obj), IsZS h z TI TO (rawInt T) f ∧ h.get? T = some o ∧ T ≠ S ∧ T ≠ z ∧ T ≠ i1 ∧ T ≠ i2 ∧ T ≠ i3) ∧ IsTupOf3 h TI (.ref i1) (.ref i2) (.ref i3) ∧ (IterAt t1 h i1 a1 i ∧ ItemsAt t1 h a1 xs1.toArray) ∧ (IterAt t2 h i2 a2 i ∧ ItemsAt t2 h a2 xs2.toArray) ∧ (IterAt t3 h i3 a3 i ∧ ItemsAt t3 h a3 xs3.toArray)) where
  ty := fun i h st => by
    obtain ⟨(⟨_, hz, _⟩ | ⟨T, f, o, hz, _⟩), _⟩ := st
    · exact ⟨_, hz, rfl⟩
    · exact ⟨_, hz, rfl⟩
  below := fun c hc => by
    have e : c = z ∨ c = TO ∨ c = i1 ∨ c = i2 ∨ c = i3 := by simpa using hc
    rcases e with q | q | q | q | q <;> rw [q] <;> assumption
  frame := fun i h h' st k => by
    obtain ⟨hz, hTI, ⟨h1, p1⟩, ⟨h2, p2⟩, ⟨h3, p3⟩⟩ := st
    have up : ∀ c o, c < S → h.get? c = some o → h'.get? c = some o := fun c o hc e => k c o (Nat.ne_of_lt hc) e
    refine ⟨?_, up _ _ lTI hTI, ⟨h1.move fun o q => up _ _ li1 q, ItemsAt.move p1 fun o q => up _ _ la1 q⟩, ⟨h2.move fun o q => up _ _ li2 q, ItemsAt.move p2 fun o q => up _ _ la2 q⟩, ⟨h3.move fun o q => up _ _ li3 q, ItemsAt.move p3 fun o q => up _ _ la3 q⟩⟩
    rcases hz with ⟨e, hz, b1, b2, b3, hTO⟩ | ⟨T, f, o, hz, hT, n1, n2, m1, m2, m3⟩
    · exact .inl ⟨e, up _ _ lz hz, b1, b2, b3, up _ _ lTO hTO⟩
    · exact .inr ⟨T, f, o, up _ _ lz hz, k T o n1 hT, n1, n2, m1, m2, m3⟩
  iter := fun A i s Q E st h => by
    obtain ⟨(⟨_, hz, _⟩ | ⟨T, f, o, hz, _⟩), _⟩ := st
    · exact iterS hz h
    · exact iterS hz h
  item := fun i s Q E t ht st hSl hQ => by
    obtain ⟨hz, hTI, ⟨h1, p1⟩, ⟨h2, p2⟩, ⟨h3, p3⟩⟩ := st
    have hlt : i < m := by
      have q := (List.getElem?_eq_some_iff.mp ht).1
      unfold tp3 at q
      simp only [List.length_zipWith] at q
      omega
    have D1 := drawsB (prog := prog) (w := w) (A := A.in1) t1 hh i1 a1 ne1 xs1.toArray
    rw [show xs1.toArray.size = m by rw [List.size_toArray]; exact l1] at D1
    have g1 : xs1[i]? = some xs1[i] := List.getElem?_eq_getElem (by omega)
    have D2 := drawsB (prog := prog) (w := w) (A := A.in1) t2 hh i2 a2 ne2 xs2.toArray
    rw [show xs2.toArray.size = m by rw [List.size_toArray]; exact l2] at D2
    have g2 : xs2[i]? = some xs2[i] := List.getElem?_eq_getElem (by omega)
    have D3 := drawsB (prog := prog) (w := w) (A := A.in1) t3 hh i3 a3 ne3 xs3.toArray
    rw [show xs3.toArray.size = m by rw [List.size_toArray]; exact l3] at D3
    have g3 : xs3[i]? = some xs3[i] := List.getElem?_eq_getElem (by omega)
    have et : t = [xs1[i], xs2[i], xs3[i]] := by
      unfold tp3 at ht
      simp only [List.getElem?_zipWith, g1, g2, g3] at ht
      exact (Option.some.inj ht).symm
    subst et
    unfold pyNext
    rcases hz with ⟨_, hz, b1, b2, b3, hTO⟩ | ⟨T, f, oT, hz, hT, n1, n2, m1, m2, m3⟩
    · have hTy : s.TypeIs (.ref z) "zip" := ⟨_, hz, rfl⟩
      refine wpAny_bind (wpAny_attempt (wpAny_callSpecial?_slot (name := Str.ofString "__next__") hTy F.slot_zip_next (wpAny_call_entry F.slot_zip_next hTy F.entry_zip_next
        (zS3_item D D1 D2 D3 hz hTI hTO ⟨h1, p1⟩ ⟨h2, p2⟩ ⟨h3, p3⟩ hlt fun w1 w2 w3 h' tk e1 e2 e3 z' TO2 s1 s2 s3 hT hsz hk => ?_) (F.args_zip_next_1 _))))
      have ew1 : w1 = xs1[i] := by
        have z0 : xs1.toArray[i]? = some xs1[i] := by simpa using g1
        exact Option.some.inj (e1.symm.trans z0)
      have ew2 : w2 = xs2[i] := by
        have z0 : xs2.toArray[i]? = some xs2[i] := by simpa using g2
        exact Option.some.inj (e2.symm.trans z0)
      have ew3 : w3 = xs3[i] := by
        have z0 : xs3.toArray[i]? = some xs3[i] := by simpa using g3
        exact Option.some.inj (e3.symm.trans z0)
      subst ew1 ew2 ew3
      have hzl : z < s.heap.objs.size := Heap.lt_size hz
      refine wpAny_pure (hQ h' tk ⟨.inr ⟨s.heap.objs.size, false, _, z', hT, Nat.ne_of_gt hSl, Nat.ne_of_gt hzl, Nat.ne_of_gt (Nat.lt_trans li1 hSl), Nat.ne_of_gt (Nat.lt_trans li2 hSl), Nat.ne_of_gt (Nat.lt_trans li3 hSl)⟩, hk _ _ D.TIz D.TITO D.TIi1 D.TIi2 D.TIi3 hTI, s1, s2, s3⟩ hT hsz fun b o hb e => hk b o (fun q => hb (by simp [q])) (fun q => hb (by simp [q])) (fun q => hb (by simp [q])) (fun q => hb (by simp [q])) (fun q => hb (by simp [q])) e)
    · have hTy : s.TypeIs (.ref z) "zip" := ⟨_, hz, rfl⟩
      refine wpAny_bind (wpAny_attempt (wpAny_callSpecial?_slot (name := Str.ofString "__next__") hTy F.slot_zip_next (wpAny_call_entry F.slot_zip_next hTy F.entry_zip_next
        (zS3_itemH D D1 D2 D3 hz hT hTI ⟨h1, p1⟩ ⟨h2, p2⟩ ⟨h3, p3⟩ hlt fun w1 w2 w3 h' tk e1 e2 e3 z' s1 s2 s3 hT2 hsz hk => ?_) (F.args_zip_next_1 _))))
      have ew1 : w1 = xs1[i] := by
        have z0 : xs1.toArray[i]? = some xs1[i] := by simpa using g1
        exact Option.some.inj (e1.symm.trans z0)
      have ew2 : w2 = xs2[i] := by
        have z0 : xs2.toArray[i]? = some xs2[i] := by simpa using g2
        exact Option.some.inj (e2.symm.trans z0)
      have ew3 : w3 = xs3[i] := by
        have z0 : xs3.toArray[i]? = some xs3[i] := by simpa using g3
        exact Option.some.inj (e3.symm.trans z0)
      subst ew1 ew2 ew3
      refine wpAny_pure (hQ h' tk ⟨.inr ⟨T, true, oT, z', hk _ _ n2 m1 m2 m3 hT, n1, n2, m1, m2, m3⟩, hk _ _ D.TIz D.TIi1 D.TIi2 D.TIi3 hTI, s1, s2, s3⟩ hT2 hsz fun b o hb e => hk b o (fun q => hb (by simp [q])) (fun q => hb (by simp [q])) (fun q => hb (by simp [q])) (fun q => hb (by simp [q])) e)
  done := fun s Q E st hQ => by
    obtain ⟨hz, hTI, ⟨h1, p1⟩, ⟨h2, p2⟩, ⟨h3, p3⟩⟩ := st
    have hm : (tp3 xs1 xs2 xs3).length = m := by
      unfold tp3
      simp only [List.length_zipWith]
      omega
    rw [hm] at h1
    have D1 := drawsB (prog := prog) (w := w) (A := A.in1) t1 hh i1 a1 ne1 xs1.toArray
    rw [show xs1.toArray.size = m by rw [List.size_toArray]; exact l1] at D1
    rw [hm] at h2
    have D2 := drawsB (prog := prog) (w := w) (A := A.in1) t2 hh i2 a2 ne2 xs2.toArray
    rw [show xs2.toArray.size = m by rw [List.size_toArray]; exact l2] at D2
    rw [hm] at h3
    have D3 := drawsB (prog := prog) (w := w) (A := A.in1) t3 hh i3 a3 ne3 xs3.toArray
    rw [show xs3.toArray.size = m by rw [List.size_toArray]; exact l3] at D3
    unfold pyNext
    rcases hz with ⟨_, hz, b1, b2, b3, hTO⟩ | ⟨T, f, oT, hz, hT, n1, n2, m1, m2, m3⟩
    · have hTy : s.TypeIs (.ref z) "zip" := ⟨_, hz, rfl⟩
      refine wpAny_bind (wpAny_attempt (wpAny_callSpecial?_slot (name := Str.ofString "__next__") hTy F.slot_zip_next (wpAny_call_entry F.slot_zip_next hTy F.entry_zip_next
        (zS3_end (A := A.in1) hh D D1 D2 D3 hz hTI ⟨h1, p1⟩ ⟨h2, p2⟩ ⟨h3, p3⟩ fun h' tk e hk he => ?_) (F.args_zip_next_1 _))))
      obtain ⟨o, ho, hcl⟩ := he
      refine wpAny_bind (wpAny_isInstance (T := "StopIteration") (b := true) ⟨o, ho, hcl⟩ isSubtype_stop ?_)
      exact wpAny_pure (hQ h' tk fun b o hb e => hk b o (fun q => hb (by simp [q])) (fun q => hb (by simp [q])) (fun q => hb (by simp [q])) (fun q => hb (by simp [q])) e)
    · have hTy : s.TypeIs (.ref z) "zip" := ⟨_, hz, rfl⟩
      refine wpAny_bind (wpAny_attempt (wpAny_callSpecial?_slot (name := Str.ofString "__next__") hTy F.slot_zip_next (wpAny_call_entry F.slot_zip_next hTy F.entry_zip_next
        (zS3_endH (A := A.in1) hh D D1 D2 D3 hz hT hTI ⟨h1, p1⟩ ⟨h2, p2⟩ ⟨h3, p3⟩ fun h' tk e hk he => ?_) (F.args_zip_next_1 _))))
      obtain ⟨o, ho, hcl⟩ := he
      refine wpAny_bind (wpAny_isInstance (T := "StopIteration") (b := true) ⟨o, ho, hcl⟩ isSubtype_stop ?_)
      exact wpAny_pure (hQ h' tk fun b o hb e => hk b o (fun q => hb (by simp [q])) (fun q => hb (by simp [q])) (fun q => hb (by simp [q])) (fun q => hb (by simp [q])) e)
end

section
variable {prog : Program} {w : World} {A : Around} {t1 t2 : Bool} {a1 a2 z TI TO i1 i2 S : Addr} {xs1 xs2 : List Value}
theorem yieldsP2 (D : ZipSep2 z TI TO i1 i2 [i1, a1] [i2, a2]) (ne1 : a1 ≠ i1) (ne2 : a2 ≠ i2) (hh : A.handled = none) (m : Nat) (l1 : xs1.length = m) (l2 : xs2.length = m)
    (lz : z < S) (lTI : TI < S) (lTO : TO < S) (li1 : i1 < S) (la1 : a1 < S) (li2 : i2 < S) (la2 : a2 < S) :
    Yields prog w A z S [z, TO, i1, i2] (tp2 xs1 xs2) (fun i h => ((i = 0 ∧ IsZP h z TI TO .none false ∧ ∃ b1 b2, IsTupOf2 h TO b1 b2) ∨ ∃ (T : Addr) (f : Bool) (o : Obj), IsZP h z TI TO (rawInt T) f ∧ h.get? T = some o ∧ T ≠ S ∧ T ≠ z ∧ T ≠ i1 ∧ T ≠ i2) ∧ IsTupOf2 h TI (.ref i1) (.ref i2) ∧ (IterAt t1 h i1 a1 i ∧ ItemsAt t1 h a1 xs1.toArray) ∧ (IterAt t2 h i2 a2 i ∧ ItemsAt t2 h a2 xs2.toArray)) where
  ty := fun i h st => by
    obtain ⟨(⟨_, hz, _⟩ | ⟨T, f, o, hz, _⟩), _⟩ := st
    · exact ⟨_, hz, rfl⟩
    · exact ⟨_, hz, rfl⟩
  below := fun c hc => by
    have e : c = z ∨ c = TO ∨ c = i1 ∨ c = i2 := by simpa using hc
    rcases e with q | q | q | q <;> rw [q] <;> assumption
  frame := fun i h h' st k => by
    obtain ⟨hz, hTI, ⟨h1, p1⟩, ⟨h2, p2⟩⟩ := st
    have up : ∀ c o, c < S → h.get? c = some o → h'.get? c = some o := fun c o hc e => k c o (Nat.ne_of_lt hc) e
    refine ⟨?_, up _ _ lTI hTI, ⟨h1.move fun o q => up _ _ li1 q, ItemsAt.move p1 fun o q => up _ _ la1 q⟩, ⟨h2.move fun o q => up _ _ li2 q, ItemsAt.move p2 fun o q => up _ _ la2 q⟩⟩
    rcases hz with ⟨e, hz, b1, b2, hTO⟩ | ⟨T, f, o, hz, hT, n1, n2, m1, m2⟩
    · exact .inl ⟨e, up _ _ lz hz, b1, b2, up _ _ lTO hTO⟩
    · exact .inr ⟨T, f, o, up _ _ lz hz, k T o n1 hT, n1, n2, m1, m2⟩
  iter := fun A i s Q E st h => by
    obtain ⟨(⟨_, hz, _⟩ | ⟨T, f, o, hz, _⟩), _⟩ := st
    · exact iterP hz h
    · exact iterP hz h
  item := fun i s Q E t ht st hSl hQ => by
    obtain ⟨hz, hTI, ⟨h1, p1⟩, ⟨h2, p2⟩⟩ := st
    have hlt : i < m := by
      have q := (List.getElem?_eq_some_iff.mp ht).1
      unfold tp2 at q
      simp only [List.length_zipWith] at q
      omega
    have D1 := drawsB (prog := prog) (w := w) (A := A.in1) t1 hh i1 a1 ne1 xs1.toArray
    rw [show xs1.toArray.size = m by rw [List.size_toArray]; exact l1] at D1
    have g1 : xs1[i]? = some xs1[i] := List.getElem?_eq_getElem (by omega)
    have D2 := drawsB (prog := prog) (w := w) (A := A.in1) t2 hh i2 a2 ne2 xs2.toArray
    rw [show xs2.toArray.size = m by rw [List.size_toArray]; exact l2] at D2
    have g2 : xs2[i]? = some xs2[i] := List.getElem?_eq_getElem (by omega)
    have et : t = [xs1[i], xs2[i]] := by
      unfold tp2 at ht
      simp only [List.getElem?_zipWith, g1, g2] at ht
      exact (Option.some.inj ht).symm
    subst et
    unfold pyNext
    rcases hz with ⟨_, hz, b1, b2, hTO⟩ | ⟨T, f, oT, hz, hT, n1, n2, m1, m2⟩
    · have hTy : s.TypeIs (.ref z) "zip" := ⟨_, hz, rfl⟩
      refine wpAny_bind (wpAny_attempt (wpAny_callSpecial?_slot (name := Str.ofString "__next__") hTy F.slot_zip_next (wpAny_call_entry F.slot_zip_next hTy F.entry_zip_next
        (zP2_item D D1 D2 hz hTI hTO ⟨h1, p1⟩ ⟨h2, p2⟩ hlt fun w1 w2 h' tk e1 e2 z' TO2 s1 s2 hT hsz hk => ?_) (F.args_zip_next_1 _))))
      have ew1 : w1 = xs1[i] := by
        have z0 : xs1.toArray[i]? = some xs1[i] := by simpa using g1
        exact Option.some.inj (e1.symm.trans z0)
      have ew2 : w2 = xs2[i] := by
        have z0 : xs2.toArray[i]? = some xs2[i] := by simpa using g2
        exact Option.some.inj (e2.symm.trans z0)
      subst ew1 ew2
      have hzl : z < s.heap.objs.size := Heap.lt_size hz
      refine wpAny_pure (hQ h' tk ⟨.inr ⟨s.heap.objs.size, false, _, z', hT, Nat.ne_of_gt hSl, Nat.ne_of_gt hzl, Nat.ne_of_gt (Nat.lt_trans li1 hSl), Nat.ne_of_gt (Nat.lt_trans li2 hSl)⟩, hk _ _ D.TIz D.TITO D.TIi1 D.TIi2 hTI, s1, s2⟩ hT hsz fun b o hb e => hk b o (fun q => hb (by simp [q])) (fun q => hb (by simp [q])) (fun q => hb (by simp [q])) (fun q => hb (by simp [q])) e)
    · have hTy : s.TypeIs (.ref z) "zip" := ⟨_, hz, rfl⟩
      refine wpAny_bind (wpAny_attempt (wpAny_callSpecial?_slot (name := Str.ofString "__next__") hTy F.slot_zip_next (wpAny_call_entry F.slot_zip_next hTy F.entry_zip_next
        (zP2_itemH D D1 D2 hz hT hTI ⟨h1, p1⟩ ⟨h2, p2⟩ hlt fun w1 w2 h' tk e1 e2 z' s1 s2 hT2 hsz hk => ?_) (F.args_zip_next_1 _))))
      have ew1 : w1 = xs1[i] := by
        have z0 : xs1.toArray[i]? = some xs1[i] := by simpa using g1
        exact Option.some.inj (e1.symm.trans z0)
      have ew2 : w2 = xs2[i] := by
        have z0 : xs2.toArray[i]? = some xs2[i] := by simpa using g2
        exact Option.some.inj (e2.symm.trans z0)
      subst ew1 ew2
      refine wpAny_pure (hQ h' tk ⟨.inr ⟨T, true, oT, z', hk _ _ n2 m1 m2 hT, n1, n2, m1, m2⟩, hk _ _ D.TIz D.TIi1 D.TIi2 hTI, s1, s2⟩ hT2 hsz fun b o hb e => hk b o (fun q => hb (by simp [q])) (fun q => hb (by simp [q])) (fun q => hb (by simp [q])) e)
  done := fun s Q E st hQ => by
    obtain ⟨hz, hTI, ⟨h1, p1⟩, ⟨h2, p2⟩⟩ := st
    have hm : (tp2 xs1 xs2).length = m := by
      unfold tp2
      simp only [List.length_zipWith]
      omega
    rw [hm] at h1
    have D1 := drawsB (prog := prog) (w := w) (A := A.in1) t1 hh i1 a1 ne1 xs1.toArray
    rw [show xs1.toArray.size = m by rw [List.size_toArray]; exact l1] at D1
    rw [hm] at h2
    have D2 := drawsB (prog := prog) (w := w) (A := A.in1) t2 hh i2 a2 ne2 xs2.toArray
    rw [show xs2.toArray.size = m by rw [List.size_toArray]; exact l2] at D2
    unfold pyNext
    rcases hz with ⟨_, hz, b1, b2, hTO⟩ | ⟨T, f, oT, hz, hT, n1, n2, m1, m2⟩
    · have hTy : s.TypeIs (.ref z) "zip" := ⟨_, hz, rfl⟩
      refine wpAny_bind (wpAny_attempt (wpAny_callSpecial?_slot (name := Str.ofString "__next__") hTy F.slot_zip_next (wpAny_call_entry F.slot_zip_next hTy F.entry_zip_next
        (zP2_end (A := A.in1) hh D D1 D2 hz hTI ⟨h1, p1⟩ ⟨h2, p2⟩ fun h' tk e hk he => ?_) (F.args_zip_next_1 _))))
      obtain ⟨o, ho, hcl⟩ := he
      refine wpAny_bind (wpAny_isInstance (T := "StopIteration") (b := true) ⟨o, ho, hcl⟩ isSubtype_stop ?_)
      exact wpAny_pure (hQ h' tk fun b o hb e => hk b o (fun q => hb (by simp [q])) (fun q => hb (by simp [q])) (fun q => hb (by simp [q])) e)
    · have hTy : s.TypeIs (.ref z) "zip" := ⟨_, hz, rfl⟩
      refine wpAny_bind (wpAny_attempt (wpAny_callSpecial?_slot (name := Str.ofString "__next__") hTy F.slot_zip_next (wpAny_call_entry F.slot_zip_next hTy F.entry_zip_next
        (zP2_endH (A := A.in1) hh D D1 D2 hz hT hTI ⟨h1, p1⟩ ⟨h2, p2⟩ fun h' tk e hk he => ?_) (F.args_zip_next_1 _))))
      obtain ⟨o, ho, hcl⟩ := he
      refine wpAny_bind (wpAny_isInstance (T := "StopIteration") (b := true) ⟨o, ho, hcl⟩ isSubtype_stop ?_)
      exact wpAny_pure (hQ h' tk fun b o hb e => hk b o (fun q => hb (by simp [q])) (fun q => hb (by simp [q])) (fun q => hb (by simp [q])) e)
end

section
variable {prog : Program} {w : World} {A : Around} {t1 t2 t3 : Bool} {a1 a2 a3 z TI TO i1 i2 i3 S : Addr} {xs1 xs2 xs3 : List Value}
theorem yieldsP3 (D : ZipSep3 z TI TO i1 i2 i3 [i1, a1] [i2, a2] [i3, a3]) (ne1 : a1 ≠ i1) (ne2 : a2 ≠ i2) (ne3 : a3 ≠ i3) (hh : A.handled = none) (m : Nat) (l1 : xs1.length = m) (l2 : xs2.length = m) (l3 : xs3.length = m)
    (lz : z < S) (lTI : TI < S) (lTO : TO < S) (li1 : i1 < S) (la1 : a1 < S) (li2 : i2 < S) (la2 : a2 < S) (li3 : i3 < S) (la3 : a3 < S) :
    Yields prog w A z S [z, TO, i1, i2, i3] (tp3 xs1 xs2 xs3) (fun i h => ((i = 0 ∧ IsZP h z TI TO .none false ∧ ∃ b1 b2 b3, IsTupOf3 h TO b1 b2 b3) ∨ ∃ (T : Addr) (f : Bool) (o : Obj), IsZP h z TI TO (rawInt T) f ∧ h.get? T = some o ∧ T ≠ S ∧ T ≠ z ∧ T ≠ i1 ∧ T ≠ i2 ∧ T ≠ i3) ∧ IsTupOf3 h TI (.ref i1) (.ref i2) (.ref i3) ∧ (IterAt t1 h i1 a1 i ∧ ItemsAt t1 h a1 xs1.toArray) ∧ (IterAt t2 h i2 a2 i ∧ ItemsAt t2 h a2 xs2.toArray) ∧ (IterAt t3 h i3 a3 i ∧ ItemsAt t3 h a3 xs3.toArray)) where
  ty := fun i h st => by
    obtain ⟨(⟨_, hz, _⟩ | ⟨T, f, o, hz, _⟩), _⟩ := st
    · exact ⟨_, hz, rfl⟩
    · exact ⟨_, hz, rfl⟩
  below := fun c hc => by
    have e : c = z ∨ c = TO ∨ c = i1 ∨ c = i2 ∨ c = i3 := by simpa using hc
    rcases e with q | q | q | q | q <;> rw [q] <;> assumption
  frame := fun i h h' st k => by
    obtain ⟨hz, hTI, ⟨h1, p1⟩, ⟨h2, p2⟩, ⟨h3, p3⟩⟩ := st
    have up : ∀ c o, c < S → h.get? c = some o → h'.get? c = some o := fun c o hc e => k c o (Nat.ne_of_lt hc) e
    refine ⟨?_, up _ _ lTI hTI, ⟨h1.move fun o q => up _ _ li1 q, ItemsAt.move p1 fun o q => up _ _ la1 q⟩, ⟨h2.move fun o q => up _ _ li2 q, ItemsAt.move p2 fun o q => up _ _ la2 q⟩, ⟨h3.move fun o q => up _ _ li3 q, ItemsAt.move p3 fun o q => up _ _ la3 q⟩⟩
    rcases hz with ⟨e, hz, b1, b2, b3, hTO⟩ | ⟨T, f, o, hz, hT, n1, n2, m1, m2, m3⟩
    · exact .inl ⟨e, up _ _ lz hz, b1, b2, b3, up _ _ lTO hTO⟩
    · exact .inr ⟨T, f, o, up _ _ lz hz, k T o n1 hT, n1, n2, m1, m2, m3⟩
  iter := fun A i s Q E st h => by
    obtain ⟨(⟨_, hz, _⟩ | ⟨T, f, o, hz, _⟩), _⟩ := st
    · exact iterP hz h
    · exact iterP hz h
  item := fun i s Q E t ht st hSl hQ => by
    obtain ⟨hz, hTI, ⟨h1, p1⟩, ⟨h2, p2⟩, ⟨h3, p3⟩⟩ := st
    have hlt : i < m := by
      have q := (List.getElem?_eq_some_iff.mp ht).1
      unfold tp3 at q
      simp only [List.length_zipWith] at q
      omega
    have D1 := drawsB (prog := prog) (w := w) (A := A.in1) t1 hh i1 a1 ne1 xs1.toArray
    rw [show xs1.toArray.size = m by rw [List.size_toArray]; exact l1] at D1
    have g1 : xs1[i]? = some xs1[i] := List.getElem?_eq_getElem (by omega)
    have D2 := drawsB (prog := prog) (w := w) (A := A.in1) t2 hh i2 a2 ne2 xs2.toArray
    rw [show xs2.toArray.size = m by rw [List.size_toArray]; exact l2] at D2
    have g2 : xs2[i]? = some xs2[i] := List.getElem?_eq_getElem (by omega)
    have D3 := drawsB (prog := prog) (w := w) (A := A.in1) t3 hh i3 a3 ne3 xs3.toArray
    rw [show xs3.toArray.size = m by rw [List.size_toArray]; exact l3] at D3
    have g3 : xs3[i]? = some xs3[i] := List.getElem?_eq_getElem (by omega)
    have et : t = [xs1[i], xs2[i], xs3[i]] := by
      unfold tp3 at ht
      simp only [List.getElem?_zipWith, g1, g2, g3] at ht
      exact (Option.some.inj ht).symm
    subst et
    unfold pyNext
    rcases hz with ⟨_, hz, b1, b2, b3, hTO⟩ | ⟨T, f, oT, hz, hT, n1, n2, m1, m2, m3⟩
    · have hTy : s.TypeIs (.ref z) "zip" := ⟨_, hz, rfl⟩
      refine wpAny_bind (wpAny_attempt (wpAny_callSpecial?_slot (name := Str.ofString "__next__") hTy F.slot_zip_next (wpAny_call_entry F.slot_zip_next hTy F.entry_zip_next
        (zP3_item D D1 D2 D3 hz hTI hTO ⟨h1, p1⟩ ⟨h2, p2⟩ ⟨h3, p3⟩ hlt fun w1 w2 w3 h' tk e1 e2 e3 z' TO2 s1 s2 s3 hT hsz hk => ?_) (F.args_zip_next_1 _))))
      have ew1 : w1 = xs1[i] := by
        have z0 : xs1.toArray[i]? = some xs1[i] := by simpa using g1
        exact Option.some.inj (e1.symm.trans z0)
      have ew2 : w2 = xs2[i] := by
        have z0 : xs2.toArray[i]? = some xs2[i] := by simpa using g2
        exact Option.some.inj (e2.symm.trans z0)
      have ew3 : w3 = xs3[i] := by
        have z0 : xs3.toArray[i]? = some xs3[i] := by simpa using g3
        exact Option.some.inj (e3.symm.trans z0)
      subst ew1 ew2 ew3
      have hzl : z < s.heap.objs.size := Heap.lt_size hz
      refine wpAny_pure (hQ h' tk ⟨.inr ⟨s.heap.objs.size, false, _, z', hT, Nat.ne_of_gt hSl, Nat.ne_of_gt hzl, Nat.ne_of_gt (Nat.lt_trans li1 hSl), Nat.ne_of_gt (Nat.lt_trans li2 hSl), Nat.ne_of_gt (Nat.lt_trans li3 hSl)⟩, hk _ _ D.TIz D.TITO D.TIi1 D.TIi2 D.TIi3 hTI, s1, s2, s3⟩ hT hsz fun b o hb e => hk b o (fun q => hb (by simp [q])) (fun q => hb (by simp [q])) (fun q => hb (by simp [q])) (fun q => hb (by simp [q])) (fun q => hb (by simp [q])) e)
    · have hTy : s.TypeIs (.ref z) "zip" := ⟨_, hz, rfl⟩
      refine wpAny_bind (wpAny_attempt (wpAny_callSpecial?_slot (name := Str.ofString "__next__") hTy F.slot_zip_next (wpAny_call_entry F.slot_zip_next hTy F.entry_zip_next
        (zP3_itemH D D1 D2 D3 hz hT hTI ⟨h1, p1⟩ ⟨h2, p2⟩ ⟨h3, p3⟩ hlt fun w1 w2 w3 h' tk e1 e2 e3 z' s1 s2 s3 hT2 hsz hk => ?_) (F.args_zip_next_1 _))))
      have ew1 : w1 = xs1[i] := by
        have z0 : xs1.toArray[i]? = some xs1[i] := by simpa using g1
        exact Option.some.inj (e1.symm.trans z0)
      have ew2 : w2 = xs2[i] := by
        have z0 : xs2.toArray[i]? = some xs2[i] := by simpa using g2
        exact Option.some.inj (e2.symm.trans z0)
      have ew3 : w3 = xs3[i] := by
        have z0 : xs3.toArray[i]? = some xs3[i] := by simpa using g3
        exact Option.some.inj (e3.symm.trans z0)
      subst ew1 ew2 ew3
      refine wpAny_pure (hQ h' tk ⟨.inr ⟨T, true, oT, z', hk _ _ n2 m1 m2 m3 hT, n1, n2, m1, m2, m3⟩, hk _ _ D.TIz D.TIi1 D.TIi2 D.TIi3 hTI, s1, s2, s3⟩ hT2 hsz fun b o hb e => hk b o (fun q => hb (by simp [q])) (fun q => hb (by simp [q])) (fun q => hb (by simp [q])) (fun q => hb (by simp [q])) e)
  done := fun s Q E st hQ => by
    obtain ⟨hz, hTI, ⟨h1, p1⟩, ⟨h2, p2⟩, ⟨h3, p3⟩⟩ := st
    have hm : (tp3 xs1 xs2 xs3).length = m := by
      unfold tp3
      simp only [List.length_zipWith]
      omega
    rw [hm] at h1
    have D1 := drawsB (prog := prog) (w := w) (A := A.in1) t1 hh i1 a1 ne1 xs1.toArray
    rw [show xs1.toArray.size = m by rw [List.size_toArray]; exact l1] at D1
    rw [hm] at h2
    have D2 := drawsB (prog := prog) (w := w) (A := A.in1) t2 hh i2 a2 ne2 xs2.toArray
    rw [show xs2.toArray.size = m by rw [List.size_toArray]; exact l2] at D2
    rw [hm] at h3
    have D3 := drawsB (prog := prog) (w := w) (A := A.in1) t3 hh i3 a3 ne3 xs3.toArray
    rw [show xs3.toArray.size = m by rw [List.size_toArray]; exact l3] at D3
    unfold pyNext
    rcases hz with ⟨_, hz, b1, b2, b3, hTO⟩ | ⟨T, f, oT, hz, hT, n1, n2, m1, m2, m3⟩
    · have hTy : s.TypeIs (.ref z) "zip" := ⟨_, hz, rfl⟩
      refine wpAny_bind (wpAny_attempt (wpAny_callSpecial?_slot (name := Str.ofString "__next__") hTy F.slot_zip_next (wpAny_call_entry F.slot_zip_next hTy F.entry_zip_next
        (zP3_end (A := A.in1) hh D D1 D2 D3 hz hTI ⟨h1, p1⟩ ⟨h2, p2⟩ ⟨h3, p3⟩ fun h' tk e hk he => ?_) (F.args_zip_next_1 _))))
      obtain ⟨o, ho, hcl⟩ := he
      refine wpAny_bind (wpAny_isInstance (T := "StopIteration") (b := true) ⟨o, ho, hcl⟩ isSubtype_stop ?_)
      exact wpAny_pure (hQ h' tk fun b o hb e => hk b o (fun q => hb (by simp [q])) (fun q => hb (by simp [q])) (fun q => hb (by simp [q])) (fun q => hb (by simp [q])) e)
    · have hTy : s.TypeIs (.ref z) "zip" := ⟨_, hz, rfl⟩
      refine wpAny_bind (wpAny_attempt (wpAny_callSpecial?_slot (name := Str.ofString "__next__") hTy F.slot_zip_next (wpAny_call_entry F.slot_zip_next hTy F.entry_zip_next
        (zP3_endH (A := A.in1) hh D D1 D2 D3 hz hT hTI ⟨h1, p1⟩ ⟨h2, p2⟩ ⟨h3, p3⟩ fun h' tk e hk he => ?_) (F.args_zip_next_1 _))))
      obtain ⟨o, ho, hcl⟩ := he
      refine wpAny_bind (wpAny_isInstance (T := "StopIteration") (b := true) ⟨o, ho, hcl⟩ isSubtype_stop ?_)
      exact wpAny_pure (hQ h' tk fun b o hb e => hk b o (fun q => hb (by simp [q])) (fun q => hb (by simp [q])) (fun q => hb (by simp [q])) (fun q => hb (by simp [q])) e)
end
end DZ

set_option Elab.async false
set_option linter.all false
set_option maxRecDepth 100000
set_option maxHeartbeats 4000000
set_option autoImplicit false
namespace DZ
open PySem PySem.Spec PySem.Calls PyProof.Rows PyProof.V L2 PySem.W
def putTs : Hp → List Addr → List (List V) → Hp
  | H, a :: as, p :: ps => putTs (upd H a (.tup p)) as ps
  | H, _, _ => H
theorem putTs_off {b : Addr} : ∀ (as : List Addr) (kvs : List (List V)) (H : Hp), b ∉ as → putTs H as kvs b = H b
  | [], _, _, _ => rfl
  | _ :: _, [], _, _ => rfl
  | a :: as, p :: kvs, H, h => by
    show putTs (upd H a (.tup p)) as kvs b = H b
    rw [putTs_off as kvs _ (fun z => h (List.mem_cons_of_mem _ z)), upd_ne (fun z => h (by rw [z]; exact List.mem_cons_self))]
theorem putTs_at : ∀ (as : List Addr) (kvs : List (List V)) (H : Hp), as.length = kvs.length → as.Nodup → Paired (fun (t : Addr) (p : List V) => putTs H as kvs t = some (.tup p)) as kvs
  | [], [], _, _, _ => .nil
  | [], _ :: _, _, h, _ => by cases h
  | _ :: _, [], _, h, _ => by cases h
  | a :: as, p :: kvs, H, h, hn => by
    have hn' := List.nodup_cons.mp hn
    have ih := putTs_at as kvs (upd H a (.tup p)) (Nat.succ.inj h) hn'.2
    refine .cons ?_ ih
    show putTs (upd H a (.tup p)) as kvs a = some (.tup p)
    rw [putTs_off as kvs _ hn'.1, upd_same]
theorem tups_laid {X : Cx} {pins : List (Addr × Obj)} {σ : L2.St} {H : Hp} {s : Shared} {h' : Heap} {tk : Nat} {tvs : List (List V)} {tps : List (List Value)} {acc : Array Value} {c S : Nat} {as : List Addr} (I : Inv X pins σ H s) (hz : tps.length ≤ sizeLine) (kv : Paired Vals tvs tps) (h2 : ∀ t ∈ tvs, t.length ≤ sizeLine) (hlo : s.heap.objs.size ≤ S)
    (hk : ∀ b o, s.heap.get? b = some o → h'.get? b = some o) (hS : h'.get? S = some { cls := .type "list", dict := none, data := .seq acc c, slots := #[] }) (hl : as.length = tps.length) (hG : Laid tps S h' as) (hacc : acc.toList = as.map Value.ref) :
    ∃ H' : Hp, Same H H' ∧ H S = none ∧ (∀ t ∈ as, H t = none) ∧ S ∉ as ∧ H' S = some (.lst (as.map V.ref)) ∧ Paired (fun (t : Addr) (q : List V) => H' t = some (.tup q)) as tvs ∧ Inv X pins σ H' { s with heap := h', toks := tk } := by
  have lk : tvs.length = tps.length := Paired.length kv
  have hSn : S ∉ as := fun z => Nat.lt_irrefl _ (hG.above _ z)
  have nd : as.Nodup := List.Pairwise.imp (fun {a b} (h : a < b) => Nat.ne_of_lt h) hG.rise
  have new : ∀ t ∈ as, H t = none := fun t ht => I.hok.fresh (Nat.le_trans hlo (Nat.le_of_lt (hG.above t ht)))
  have newS : H S = none := I.hok.fresh hlo
  have atP := putTs_at as tvs (upd H S (.lst (as.map V.ref))) (by omega) nd
  have off : ∀ b, b ∉ as → b ≠ S → putTs (upd H S (.lst (as.map V.ref))) as tvs b = H b := fun b h1 h2 => by rw [putTs_off as tvs _ h1, upd_ne h2]
  have low : ∀ b o, s.heap.get? b = some o → b ∉ as ∧ b ≠ S := fun b o e => ⟨fun z => absurd (Heap.lt_size e) (Nat.not_lt.mpr (Nat.le_trans hlo (Nat.le_of_lt (hG.above b z)))), Nat.ne_of_lt (Nat.lt_of_lt_of_le (Heap.lt_size e) hlo)⟩
  have kp : ∀ b u, H b = some u → (putTs (upd H S (.lst (as.map V.ref))) as tvs) b = some u := fun b u e => by
    rw [off b (fun z => by rw [new b z] at e; cases e) (fun z => by rw [z, newS] at e; cases e)]
    exact e
  have eS : putTs (upd H S (.lst (as.map V.ref))) as tvs S = some (.lst (as.map V.ref)) := by rw [putTs_off as tvs _ hSn, upd_same]
  refine ⟨putTs (upd H S (.lst (as.map V.ref))) as tvs, kp, newS, new, hSn, eS, atP, ?_⟩
  refine I.call' (ch := []) rfl ⟨fun b o q _ _ _ => hk b o q, fun b o q _ _ _ => ⟨o.slots, hk b o q⟩, fun b o q n _ => ?_, fun b o q _ => ⟨o, hk b o q⟩, fun b xs q => kp b _ q, fun b o u q => kp b _ q, fun b ps q => ⟨#[], by rw [kp b _ q]; simp⟩⟩ (fun b u q => ?_) I.bare fun b z => by simp at z
  · obtain ⟨z1, z2⟩ := low b o q
    rw [off b z1 z2]
    exact n
  · by_cases hb : b ∈ as
    · obtain ⟨j, pk, e1, e2, e3⟩ := LiI.paired_ix atP hb
      rw [e3] at q
      cases q
      obtain ⟨t, f1, f3⟩ := hG.tups j b e1
      obtain ⟨qv, g1, g2⟩ := LiI.paired_get kv e2
      rw [f1] at g1
      cases g1
      exact ⟨h2 _ (List.mem_of_getElem? e2), t, g2, ⟨_, f3, rfl, _, rfl⟩⟩
    · by_cases hb2 : b = S
      · rw [hb2] at q ⊢
        rw [eS] at q
        cases q
        refine ⟨by rw [List.length_map]; omega, acc.toList, c, by rw [hacc]; exact LiI.vals_refs as, ?_⟩
        rw [Array.toArray_toList]
        exact hS
      · rw [off b hb hb2] at q
        exact (I.hok b u q).stay (fun d v _ y => hk d v y) (fun d y => kp d _ y) fun d xs y => kp d _ y
theorem vals_len : ∀ {xs : List V} {ys : List Value}, Vals xs ys → xs.length = ys.length := fun h => Paired.length h
theorem pz2 : ∀ {a b : List V} {c d : List Value}, Vals a c → Vals b d → Paired Vals (List.zipWith (fun x y => [x, y]) a b) (List.zipWith (fun x y => [x, y]) c d)
  | _, _, _, _, .nil, _ => by simp; exact .nil
  | _, _, _, _, .cons _ _, .nil => by simp; exact .nil
  | _, _, _, _, .cons r t, .cons r' t' => by simp only [List.zipWith_cons_cons]; exact .cons (.cons r (.cons r' .nil)) (pz2 t t')
theorem pzc : ∀ {a : List V} {c : List Value} {B : List (List V)} {D : List (List Value)}, Vals a c → Paired Vals B D → Paired Vals (List.zipWith (fun x l => x :: l) a B) (List.zipWith (fun x l => x :: l) c D)
  | _, _, _, _, .nil, _ => by simp; exact .nil
  | _, _, _, _, .cons _ _, .nil => by simp; exact .nil
  | _, _, _, _, .cons r t, .cons r' t' => by simp only [List.zipWith_cons_cons]; exact .cons (.cons r r') (pzc t t')
def tv2 (xs1 xs2 : List V) : List (List V) := List.zipWith (fun a b => [a, b]) xs1 xs2
def tv3 (xs1 xs2 xs3 : List V) : List (List V) := List.zipWith (fun a l => a :: l) xs1 (List.zipWith (fun a b => [a, b]) xs2 xs3)
theorem tv2_len {xs1 xs2 : List V} : ∀ t ∈ tv2 xs1 xs2, t.length ≤ sizeLine := fun t ht => by
  obtain ⟨i, hi⟩ := List.mem_iff_getElem?.mp ht
  unfold tv2 at hi
  rw [List.getElem?_zipWith] at hi
  split at hi
  · cases hi; show 2 ≤ sizeLine; decide
  · cases hi
theorem tv3_len {xs1 xs2 xs3 : List V} : ∀ t ∈ tv3 xs1 xs2 xs3, t.length ≤ sizeLine := fun t ht => by
  obtain ⟨i, hi⟩ := List.mem_iff_getElem?.mp ht
  unfold tv3 at hi
  rw [List.getElem?_zipWith] at hi
  split at hi
  · rename_i a l e1 e2
    cases hi
    rw [List.getElem?_zipWith] at e2
    split at e2
    · cases e2; show 3 ≤ sizeLine; decide
    · cases e2
  · cases hi
end DZ
namespace DL
open PySem PySem.Spec PyProof.Rows L2
theorem Stt.growBy {K : PySem.W.Frag} {F : Fm} {g : G} {tm : List (V × R)} {s : L2.St} {H H' B : Hp} {al : List Addr} (S : Stt K F g tm s H B al) (e : Same H H') (nw : List Addr) (hn : ∀ a ∈ nw, H a = none) : Stt K F g tm s H' (fun a => if a ∈ nw then H' a else B a) al := by
  have bf : ∀ a ∈ nw, B a = none := fun a ha => S.bh.free (hn a ha)
  have eB : Same B (fun a => if a ∈ nw then H' a else B a) := fun a o q => by
    have na : a ∉ nw := fun z => by rw [bf a z] at q; cases q
    show (if a ∈ nw then H' a else B a) = some o
    rw [if_neg na]; exact q
  refine { fb := S.fb.trans eB, bh := ?_, fo := ?_, pre := S.pre, len := S.len, nd := S.nd, lv := ?_, nb := ?_, ce := ?_, sl := ?_, tm := ?_, sln := S.sln }
  · intro a o q
    have q' : (if a ∈ nw then H' a else B a) = some o := q
    by_cases ha : a ∈ nw
    · rw [if_pos ha] at q'; exact q'
    · rw [if_neg ha] at q'; exact e _ _ (S.bh _ _ q')
  · intro a u q
    obtain ⟨h1, h2, h3⟩ := S.fo a u q
    have na : a ∉ nw := fun z => by rw [hn a z] at h1; cases h1
    exact ⟨e _ _ h1, by show (if a ∈ nw then H' a else B a) = none; rw [if_neg na]; exact h2, h3⟩
  · intro a ha
    obtain ⟨u, q⟩ := S.lv a ha
    exact ⟨u, e _ _ q⟩
  · intro j a ct h1 h2 h3
    obtain ⟨u, q⟩ := S.lv a (List.mem_of_getElem? h1)
    have na : a ∉ nw := fun z => by rw [hn a z] at q; cases q
    show (if a ∈ nw then H' a else B a) = none
    rw [if_neg na]
    exact S.nb j a ct h1 h2 h3
  · intro j a ct h1 h2
    exact ct_mono0 eB (fun u q => e _ _ q) (S.ce j a ct h1 h2)
  · intro i r q
    obtain ⟨v, h1, h2⟩ := S.sl i r q
    exact ⟨v, h1, rv_mono0 eB h2⟩
  · intro q hq
    exact rv_mono0 eB (S.tm q hq)
def zip2 (xs ys : List PyData) : List PyData := List.zipWith (fun a b => .tuple [a, b]) xs ys
def zip3 (xs ys zs : List PyData) : List PyData := List.zipWith (fun a l => match l with | .tuple l => .tuple (a :: l) | x => x) xs (zip2 ys zs)
theorem dz2 {B : Hp} : ∀ {a b : List V} {c d : List PyData} {as : List Addr}, DqAll B a c → DqAll B b d → Paired (fun (t : Addr) (q : List V) => B t = some (.tup q)) as (DZ.tv2 a b) → DqAll B (as.map V.ref) (zip2 c d)
  | _, _, _, _, _, .nil, _, h => by cases h; exact .nil
  | _, _, _, _, _, .cons _ _, .nil, h => by cases h; exact .nil
  | _, _, _, _, _, .cons r t, .cons r' t', .cons h hh => .cons (.tup h (.cons r (.cons r' .nil))) (dz2 t t' hh)
theorem dz3 {B : Hp} : ∀ {a b e : List V} {c d f : List PyData} {as : List Addr}, DqAll B a c → DqAll B b d → DqAll B e f → Paired (fun (t : Addr) (q : List V) => B t = some (.tup q)) as (DZ.tv3 a b e) → DqAll B (as.map V.ref) (zip3 c d f)
  | _, _, _, _, _, _, _, .nil, _, _, h => by cases h; exact .nil
  | _, _, _, _, _, _, _, .cons _ _, .nil, _, h => by cases h; exact .nil
  | _, _, _, _, _, _, _, .cons _ _, .cons _ _, .nil, h => by cases h; exact .nil
  | _, _, _, _, _, _, _, .cons r t, .cons r' t', .cons r'' t'', .cons h hh => .cons (.tup h (.cons r (.cons r' (.cons r'' .nil)))) (dz3 t t' t'' hh)
theorem paired_mem {α β : Type} {F F' : α → β → Prop} : ∀ {xs : List α} {ys : List β}, (∀ a ∈ xs, ∀ b, F a b → F' a b) → Paired F xs ys → Paired F' xs ys
  | _, _, _, .nil => .nil
  | _, _, h, .cons a b => .cons (h _ List.mem_cons_self _ a) (paired_mem (fun a ha => h a (List.mem_cons_of_mem _ ha)) b)


theorem mkS2 {X : Cx} {e1 e2 : Expr} {ta : TA} {p pos : Pos} {kc : Nat} {pc kp : Pos} {pins : List (Addr × Obj)} {s : Shared} {σ : L2.St} {H : Hp} (R : Addr → Bool → List V → Addr → Bool → List V → Hp → Prop) (hg : Gl X "zip") (hm : X.mg "zip" = none) (ha : PA X [e1, e2] ta) (hs : starEach [e1, e2] X.env = (false, eval e1 X.env) :: starEach [e2] X.env := by rfl) (hpl : (backTo pos (starEach [e2] X.env)).any (·.1) = false := by rfl) (I : Inv X pins σ H s)
    (h : ta σ H fun vs H1 => ∃ (a1 : Addr) (t1 : Bool) (xs1 : List V) (a2 : Addr) (t2 : Bool) (xs2 : List V), vs = [V.ref a1, V.ref a2] ∧ SqB X.K t1 H1 a1 xs1 ∧ SqB X.K t2 H1 a2 xs2 ∧ R a1 t1 xs1 a2 t2 xs2 H1) :
    wpAny (model X.prog X.w) X.A (eval (.Call (.Name "zip" p) [e1, e2] [⟨some "strict", .Constant (.bool true) kc pc, kp⟩] pos) X.env) (fun v s2 => ∃ (s1 : Shared) (h' : Heap) (H1 : Hp) (a1 : Addr) (t1 : Bool) (xs1 : List V) (a2 : Addr) (t2 : Bool) (xs2 : List V), v = .ref (s1.heap.objs.size + 4) ∧ s2 = { s1 with heap := h' } ∧ Inv X pins σ H1 s1 ∧ SqB X.K t1 H1 a1 xs1 ∧ SqB X.K t2 H1 a2 xs2 ∧ R a1 t1 xs1 a2 t2 xs2 H1 ∧
      DZ.IsZS h' (s1.heap.objs.size + 4) (s1.heap.objs.size + 2) (s1.heap.objs.size + 3) .none false ∧ IsTupOf2 h' (s1.heap.objs.size + 2) (.ref s1.heap.objs.size) (.ref (s1.heap.objs.size + 1)) ∧ IsTupOf2 h' (s1.heap.objs.size + 3) .none .none ∧ DZ.IterAt t1 h' s1.heap.objs.size a1 0 ∧ DZ.IterAt t2 h' (s1.heap.objs.size + 1) a2 0 ∧ h'.objs.size = s1.heap.objs.size + 5 ∧ (∀ c o, s1.heap.get? c = some o → h'.get? c = some o)) X.xe s := by
  refine wpAny_Call_Name_kw (ld_blt I hg hm PyProof.Rows.boot_zip ?_)
  refine cw_type_kw (thn (ha.run pos pins s σ H _ I h) fun us s1 ⟨vs, H1, I1, r1, q1⟩ => kws_cons (thn (pe_bl.run pins s1 σ H1 (fun v H2 => v = .bl true ∧ H2 = H1) I1 ⟨rfl, rfl⟩) fun u s2 ⟨v, H2, I2, rv, ev, eH⟩ => kws_nil ?_)) (by rw [hs]; rfl) (by rw [hs]; exact hpl) rfl rfl
  subst ev eH
  have eu : u = .bool true := rv
  subst eu
  obtain ⟨a1, t1, xs1, a2, t2, xs2, ex, hq1, hq2, q⟩ := q1
  subst ex
  have eus : us = [Value.ref a1, Value.ref a2] := by
    cases r1 with
    | cons r1a r1b =>
      cases r1b with
      | cons r2a r2b =>
        cases r2b
        cases r1a
        cases r2a
        rfl
  subst eus
  obtain ⟨its1, rv1, p1, _⟩ := seqB_at I2 hq1
  obtain ⟨its2, rv2, p2, _⟩ := seqB_at I2 hq2
  exact DZ.beginsS2 (DZ.beginsB t1 a1 its1.toArray) (DZ.beginsB t2 a2 its2.toArray) p1 p2 fun h' hz hTI hTO g1 g2 hsz hk => ⟨s2, h', H2, a1, t1, xs1, a2, t2, xs2, rfl, rfl, I2, hq1, hq2, q, hz, hTI, hTO, DZ.IterAt.start g1, DZ.IterAt.start g2, hsz, hk⟩
def iZS2 (K : PySem.W.Frag) (ta : TA) : TI := fun σ H R => ta σ H fun vs H1 => ∃ (a1 : Addr) (t1 : Bool) (xs1 : List V) (a2 : Addr) (t2 : Bool) (xs2 : List V), vs = [V.ref a1, V.ref a2] ∧ SqB K t1 H1 a1 xs1 ∧ SqB K t2 H1 a2 xs2 ∧ R (ItZ2 K t1 a1 t2 a2) H1
theorem pi_zS2 {X : Cx} {e1 e2 : Expr} {ta : TA} {p pos tpos : Pos} {kc : Nat} {pc kp : Pos} {elts : List Expr} {kk : Nat} (hg : Gl X "zip") (hm : X.mg "zip" = none) (ha : PA X [e1, e2] ta) (hs : starEach [e1, e2] X.env = (false, eval e1 X.env) :: starEach [e2] X.env := by rfl) (hpl : (backTo pos (starEach [e2] X.env)).any (·.1) = false := by rfl) :
    PI X (.Tuple elts kk tpos) (.Call (.Name "zip" p) [e1, e2] [⟨some "strict", .Constant (.bool true) kc pc, kp⟩] pos) (iZS2 X.K ta) := by
  refine ⟨fun pins s σ H R I h => ?_⟩
  refine thn (mkS2 (fun a1 t1 xs1 a2 t2 xs2 H1 => R (ItZ2 X.K t1 a1 t2 a2) H1) hg hm ha hs hpl I h) ?_
  rintro v s2 ⟨s1, h', H1, a1, t1, xs1, a2, t2, xs2, rfl, rfl, I1, hq1, hq2, q, hz, hTI, hTO, g1, g2, hsz, hk⟩
  obtain ⟨its1, rv1, p1, _⟩ := seqB_at I1 hq1
  have la1 := DZ.ItemsAt.lt p1
  obtain ⟨its2, rv2, p2, _⟩ := seqB_at I1 hq2
  have la2 := DZ.ItemsAt.lt p2
  have D := zip_sep2 (N := s1.heap.objs.size) (fp1 := [a1]) (fp2 := [a2]) (fun b hb => by rw [List.mem_singleton.mp hb]; exact la1) (fun b hb => by rw [List.mem_singleton.mp hb]; exact la2)
  refine DZ.iterS hz ?_
  have I2 : Inv X pins σ H1 { s1 with heap := h' } := I1.kept (t' := s1.toks) hk
  refine ⟨(s1.heap.objs.size + 4), [(s1.heap.objs.size + 4), (s1.heap.objs.size + 2), (s1.heap.objs.size + 3), s1.heap.objs.size, (s1.heap.objs.size + 1)], _, _, H1, rfl, I2, turnS2 D (Nat.ne_of_lt (Nat.lt_of_lt_of_le la1 (Nat.le_add_right _ 0))) (Nat.ne_of_lt (Nat.lt_of_lt_of_le la2 (Nat.le_add_right _ 1))), ⟨hz, hTI, ⟨_, _, hTO⟩, g1, g2⟩, fun c hcm => ?_, q⟩
  have e' : c = (s1.heap.objs.size + 4) ∨ c = (s1.heap.objs.size + 2) ∨ c = (s1.heap.objs.size + 3) ∨ c = s1.heap.objs.size ∨ c = (s1.heap.objs.size + 1) := by simpa using hcm
  have hle : s1.heap.objs.size ≤ c := by
    rcases e' with q | q | q | q | q <;> rw [q] <;> first | exact Nat.le_refl _ | exact Nat.le_add_right _ _
  exact I1.fpOk hle (I1.hok.fresh hle)
def tLZS2 (K : PySem.W.Frag) (ta : TA) : TE := fun σ H Q => ta σ H fun vs H1 => ∃ (a1 : Addr) (t1 : Bool) (xs1 : List V) (a2 : Addr) (t2 : Bool) (xs2 : List V), vs = [V.ref a1, V.ref a2] ∧ SqB K t1 H1 a1 xs1 ∧ SqB K t2 H1 a2 xs2 ∧ (xs2.length = xs1.length ∧ ∀ (H' : Hp) (S : Addr) (as : List Addr), Same H1 H' → H1 S = none → (∀ t ∈ as, H1 t = none) → S ∉ as → H' S = some (.lst (as.map V.ref)) → Paired (fun (t : Addr) (q : List V) => H' t = some (.tup q)) as (DZ.tv2 xs1 xs2) → Q (.ref S) H')
theorem pe_lzS2 {X : Cx} {e1 e2 : Expr} {ta : TA} {p pos pl posl : Pos} {kc : Nat} {pc kp : Pos} (hc : X.calm = true) (hgl : Gl X "list") (hml : X.mg "list" = none) (hg : Gl X "zip") (hm : X.mg "zip" = none) (ha : PA X [e1, e2] ta) (hs : starEach [e1, e2] X.env = (false, eval e1 X.env) :: starEach [e2] X.env := by rfl) (hpl : (backTo pos (starEach [e2] X.env)).any (·.1) = false := by rfl)
    (hsl : starEach [(.Call (.Name "zip" p) [e1, e2] [⟨some "strict", .Constant (.bool true) kc pc, kp⟩] pos)] X.env = (false, eval (.Call (.Name "zip" p) [e1, e2] [⟨some "strict", .Constant (.bool true) kc pc, kp⟩] pos) X.env) :: starEach [] X.env := by rfl) :
    PE X (.Call (.Name "list" pl) [(.Call (.Name "zip" p) [e1, e2] [⟨some "strict", .Constant (.bool true) kc pc, kp⟩] pos)] [] posl) (tLZS2 X.K ta) := by
  refine ⟨fun pins s σ H Q I h => ?_⟩
  refine wpAny_Call_Name_kw (ld_blt I hgl hml PyProof.Rows.boot_list ?_)
  refine PyProof.Rows.callWith_type1 ?_ hsl rfl
  rw [hsl]
  show wpAny _ _ (spliced ((false, eval (.Call (.Name "zip" p) [e1, e2] [⟨some "strict", .Constant (.bool true) kc pc, kp⟩] pos) X.env) :: backTo posl (starEach [] X.env))) _ _ s
  refine Calls.spliced_cons ?_
  refine thn (mkS2 (fun a1 t1 xs1 a2 t2 xs2 H1 => (xs2.length = xs1.length ∧ ∀ (H' : Hp) (S : Addr) (as : List Addr), Same H1 H' → H1 S = none → (∀ t ∈ as, H1 t = none) → S ∉ as → H' S = some (.lst (as.map V.ref)) → Paired (fun (t : Addr) (q : List V) => H' t = some (.tup q)) as (DZ.tv2 xs1 xs2) → Q (.ref S) H')) hg hm ha hs hpl I h) ?_
  rintro v s2 ⟨s1, h', H1, a1, t1, xs1, a2, t2, xs2, rfl, rfl, I1, hq1, hq2, ⟨el2, q⟩, hz, hTI, hTO, g1, g2, hsz, hk⟩
  refine Calls.spliced_nil ?_
  obtain ⟨its1, rv1, p1, sl1⟩ := seqB_at I1 hq1
  have la1 := DZ.ItemsAt.lt p1
  have vl1 := DZ.vals_len rv1
  obtain ⟨its2, rv2, p2, sl2⟩ := seqB_at I1 hq2
  have la2 := DZ.ItemsAt.lt p2
  have vl2 := DZ.vals_len rv2
  have D := zip_sep2 (N := s1.heap.objs.size) (fp1 := [a1]) (fp2 := [a2]) (fun b hb => by rw [List.mem_singleton.mp hb]; exact la1) (fun b hb => by rw [List.mem_singleton.mp hb]; exact la2)
  have lN : ∀ k : Nat, k < 5 → s1.heap.objs.size + k < h'.objs.size := fun k hk => by rw [hsz]; exact Nat.add_lt_add_left hk _
  have Y := DZ.yieldsS2 (prog := X.prog) (w := X.w) (A := X.A.in1.in1) (t1 := t1) (t2 := t2) (xs1 := its1) (xs2 := its2) (S := h'.objs.size) D (Nat.ne_of_lt (Nat.lt_of_lt_of_le la1 (Nat.le_add_right _ 0))) (Nat.ne_of_lt (Nat.lt_of_lt_of_le la2 (Nat.le_add_right _ 1))) (I1.ok.hd hc) its1.length rfl (by omega) (lN 4 (by omega)) (lN 2 (by omega)) (lN 3 (by omega)) (lN 0 (by omega)) (Nat.lt_of_lt_of_le la1 (Nat.le_of_lt (lN 0 (by omega)))) (lN 1 (by omega)) (Nat.lt_of_lt_of_le la2 (Nat.le_of_lt (lN 0 (by omega))))
  have tl : (DZ.tp2 its1 its2).length = its1.length := by
    unfold DZ.tp2
    simp only [List.length_zipWith]
    omega
  refine DZ.zl_call (s := { s1 with heap := h' }) Y (by omega) (by simp) (fun o => ?_) fun h2 tk acc c as hk2 hS hl hG hacc => ?_
  · have up : ∀ c o', h'.get? c = some o' → (h'.push o).get? c = some o' := fun c o' e => Heap.get?_push_of_some _ e
    exact ⟨.inl ⟨rfl, up _ _ hz, .none, .none, up _ _ hTO⟩, up _ _ hTI, ⟨g1.move fun o q => up _ _ q, DZ.ItemsAt.move p1 fun o q => up _ _ (hk _ _ q)⟩, ⟨g2.move fun o q => up _ _ q, DZ.ItemsAt.move p2 fun o q => up _ _ (hk _ _ q)⟩⟩
  · have kk : ∀ b o, s1.heap.get? b = some o → h2.get? b = some o := fun b o e => hk2 b o (fun q => by
      have hb := Heap.lt_size e
      have e' : b = (s1.heap.objs.size + 4) ∨ b = (s1.heap.objs.size + 3) ∨ b = s1.heap.objs.size ∨ b = (s1.heap.objs.size + 1) := by simpa using q
      rcases e' with q | q | q | q <;> rw [q] at hb <;> first | exact Nat.lt_irrefl _ hb | exact Nat.lt_irrefl _ (Nat.lt_of_le_of_lt (Nat.le_add_right _ _) hb)) (hk b o e)
    have pv : Paired Vals (DZ.tv2 xs1 xs2) (DZ.tp2 its1 its2) := DZ.pz2 rv1 rv2
    obtain ⟨H', k1, k2, k3, k4, k5, k6, J⟩ := DZ.tups_laid (tk := tk) I1 (by omega) pv DZ.tv2_len (by show s1.heap.objs.size ≤ h'.objs.size; omega) kk hS hl hG hacc
    exact ⟨.ref _, H', J, rfl, q H' _ as k1 k2 k3 k4 k5 k6⟩
def iZipS2 (da : DA) : DI := fun g k => da g fun rs g1 => ∃ (x1 : PyData) (t1 : Bool) (ds1 : List PyData) (x2 : PyData) (t2 : Bool) (ds2 : List PyData), rs = [R.d x1, R.d x2] ∧ seqOf g1 (.d x1) = some (t1, ds1) ∧ seqOf g1 (.d x2) = some (t2, ds2) ∧ ds2.length = ds1.length ∧ k (zip2 ds1 ds2) g1
def dLZS2 (da : DA) : DE := fun g k => da g fun rs g1 => ∃ (r1 : R) (t1 : Bool) (ds1 : List PyData) (r2 : R) (t2 : Bool) (ds2 : List PyData), rs = [r1, r2] ∧ seqOf g1 r1 = some (t1, ds1) ∧ seqOf g1 r2 = some (t2, ds2) ∧ ds2.length = ds1.length ∧ k (.d (.list (zip2 ds1 ds2))) g1

theorem mkS3 {X : Cx} {e1 e2 e3 : Expr} {ta : TA} {p pos : Pos} {kc : Nat} {pc kp : Pos} {pins : List (Addr × Obj)} {s : Shared} {σ : L2.St} {H : Hp} (R : Addr → Bool → List V → Addr → Bool → List V → Addr → Bool → List V → Hp → Prop) (hg : Gl X "zip") (hm : X.mg "zip" = none) (ha : PA X [e1, e2, e3] ta) (hs : starEach [e1, e2, e3] X.env = (false, eval e1 X.env) :: starEach [e2, e3] X.env := by rfl) (hpl : (backTo pos (starEach [e2, e3] X.env)).any (·.1) = false := by rfl) (I : Inv X pins σ H s)
    (h : ta σ H fun vs H1 => ∃ (a1 : Addr) (t1 : Bool) (xs1 : List V) (a2 : Addr) (t2 : Bool) (xs2 : List V) (a3 : Addr) (t3 : Bool) (xs3 : List V), vs = [V.ref a1, V.ref a2, V.ref a3] ∧ SqB X.K t1 H1 a1 xs1 ∧ SqB X.K t2 H1 a2 xs2 ∧ SqB X.K t3 H1 a3 xs3 ∧ R a1 t1 xs1 a2 t2 xs2 a3 t3 xs3 H1) :
    wpAny (model X.prog X.w) X.A (eval (.Call (.Name "zip" p) [e1, e2, e3] [⟨some "strict", .Constant (.bool true) kc pc, kp⟩] pos) X.env) (fun v s2 => ∃ (s1 : Shared) (h' : Heap) (H1 : Hp) (a1 : Addr) (t1 : Bool) (xs1 : List V) (a2 : Addr) (t2 : Bool) (xs2 : List V) (a3 : Addr) (t3 : Bool) (xs3 : List V), v = .ref (s1.heap.objs.size + 5) ∧ s2 = { s1 with heap := h' } ∧ Inv X pins σ H1 s1 ∧ SqB X.K t1 H1 a1 xs1 ∧ SqB X.K t2 H1 a2 xs2 ∧ SqB X.K t3 H1 a3 xs3 ∧ R a1 t1 xs1 a2 t2 xs2 a3 t3 xs3 H1 ∧
      DZ.IsZS h' (s1.heap.objs.size + 5) (s1.heap.objs.size + 3) (s1.heap.objs.size + 4) .none false ∧ IsTupOf3 h' (s1.heap.objs.size + 3) (.ref s1.heap.objs.size) (.ref (s1.heap.objs.size + 1)) (.ref (s1.heap.objs.size + 2)) ∧ IsTupOf3 h' (s1.heap.objs.size + 4) .none .none .none ∧ DZ.IterAt t1 h' s1.heap.objs.size a1 0 ∧ DZ.IterAt t2 h' (s1.heap.objs.size + 1) a2 0 ∧ DZ.IterAt t3 h' (s1.heap.objs.size + 2) a3 0 ∧ h'.objs.size = s1.heap.objs.size + 6 ∧ (∀ c o, s1.heap.get? c = some o → h'.get? c = some o)) X.xe s := by
  refine wpAny_Call_Name_kw (ld_blt I hg hm PyProof.Rows.boot_zip ?_)
  refine cw_type_kw (thn (ha.run pos pins s σ H _ I h) fun us s1 ⟨vs, H1, I1, r1, q1⟩ => kws_cons (thn (pe_bl.run pins s1 σ H1 (fun v H2 => v = .bl true ∧ H2 = H1) I1 ⟨rfl, rfl⟩) fun u s2 ⟨v, H2, I2, rv, ev, eH⟩ => kws_nil ?_)) (by rw [hs]; rfl) (by rw [hs]; exact hpl) rfl rfl
  subst ev eH
  have eu : u = .bool true := rv
  subst eu
  obtain ⟨a1, t1, xs1, a2, t2, xs2, a3, t3, xs3, ex, hq1, hq2, hq3, q⟩ := q1
  subst ex
  have eus : us = [Value.ref a1, Value.ref a2, Value.ref a3] := by
    cases r1 with
    | cons r1a r1b =>
      cases r1b with
      | cons r2a r2b =>
        cases r2b with
        | cons r3a r3b =>
          cases r3b
          cases r1a
          cases r2a
          cases r3a
          rfl
  subst eus
  obtain ⟨its1, rv1, p1, _⟩ := seqB_at I2 hq1
  obtain ⟨its2, rv2, p2, _⟩ := seqB_at I2 hq2
  obtain ⟨its3, rv3, p3, _⟩ := seqB_at I2 hq3
  exact DZ.beginsS3 (DZ.beginsB t1 a1 its1.toArray) (DZ.beginsB t2 a2 its2.toArray) (DZ.beginsB t3 a3 its3.toArray) p1 p2 p3 fun h' hz hTI hTO g1 g2 g3 hsz hk => ⟨s2, h', H2, a1, t1, xs1, a2, t2, xs2, a3, t3, xs3, rfl, rfl, I2, hq1, hq2, hq3, q, hz, hTI, hTO, DZ.IterAt.start g1, DZ.IterAt.start g2, DZ.IterAt.start g3, hsz, hk⟩
def iZS3 (K : PySem.W.Frag) (ta : TA) : TI := fun σ H R => ta σ H fun vs H1 => ∃ (a1 : Addr) (t1 : Bool) (xs1 : List V) (a2 : Addr) (t2 : Bool) (xs2 : List V) (a3 : Addr) (t3 : Bool) (xs3 : List V), vs = [V.ref a1, V.ref a2, V.ref a3] ∧ SqB K t1 H1 a1 xs1 ∧ SqB K t2 H1 a2 xs2 ∧ SqB K t3 H1 a3 xs3 ∧ R (ItZ3 K t1 a1 t2 a2 t3 a3) H1
theorem pi_zS3 {X : Cx} {e1 e2 e3 : Expr} {ta : TA} {p pos tpos : Pos} {kc : Nat} {pc kp : Pos} {elts : List Expr} {kk : Nat} (hg : Gl X "zip") (hm : X.mg "zip" = none) (ha : PA X [e1, e2, e3] ta) (hs : starEach [e1, e2, e3] X.env = (false, eval e1 X.env) :: starEach [e2, e3] X.env := by rfl) (hpl : (backTo pos (starEach [e2, e3] X.env)).any (·.1) = false := by rfl) :
    PI X (.Tuple elts kk tpos) (.Call (.Name "zip" p) [e1, e2, e3] [⟨some "strict", .Constant (.bool true) kc pc, kp⟩] pos) (iZS3 X.K ta) := by
  refine ⟨fun pins s σ H R I h => ?_⟩
  refine thn (mkS3 (fun a1 t1 xs1 a2 t2 xs2 a3 t3 xs3 H1 => R (ItZ3 X.K t1 a1 t2 a2 t3 a3) H1) hg hm ha hs hpl I h) ?_
  rintro v s2 ⟨s1, h', H1, a1, t1, xs1, a2, t2, xs2, a3, t3, xs3, rfl, rfl, I1, hq1, hq2, hq3, q, hz, hTI, hTO, g1, g2, g3, hsz, hk⟩
  obtain ⟨its1, rv1, p1, _⟩ := seqB_at I1 hq1
  have la1 := DZ.ItemsAt.lt p1
  obtain ⟨its2, rv2, p2, _⟩ := seqB_at I1 hq2
  have la2 := DZ.ItemsAt.lt p2
  obtain ⟨its3, rv3, p3, _⟩ := seqB_at I1 hq3
  have la3 := DZ.ItemsAt.lt p3
  have D := zip_sep3 (N := s1.heap.objs.size) (fp1 := [a1]) (fp2 := [a2]) (fp3 := [a3]) (fun b hb => by rw [List.mem_singleton.mp hb]; exact la1) (fun b hb => by rw [List.mem_singleton.mp hb]; exact la2) (fun b hb => by rw [List.mem_singleton.mp hb]; exact la3)
  refine DZ.iterS hz ?_
  have I2 : Inv X pins σ H1 { s1 with heap := h' } := I1.kept (t' := s1.toks) hk
  refine ⟨(s1.heap.objs.size + 5), [(s1.heap.objs.size + 5), (s1.heap.objs.size + 3), (s1.heap.objs.size + 4), s1.heap.objs.size, (s1.heap.objs.size + 1), (s1.heap.objs.size + 2)], _, _, H1, rfl, I2, turnS3 D (Nat.ne_of_lt (Nat.lt_of_lt_of_le la1 (Nat.le_add_right _ 0))) (Nat.ne_of_lt (Nat.lt_of_lt_of_le la2 (Nat.le_add_right _ 1))) (Nat.ne_of_lt (Nat.lt_of_lt_of_le la3 (Nat.le_add_right _ 2))), ⟨hz, hTI, ⟨_, _, _, hTO⟩, g1, g2, g3⟩, fun c hcm => ?_, q⟩
  have e' : c = (s1.heap.objs.size + 5) ∨ c = (s1.heap.objs.size + 3) ∨ c = (s1.heap.objs.size + 4) ∨ c = s1.heap.objs.size ∨ c = (s1.heap.objs.size + 1) ∨ c = (s1.heap.objs.size + 2) := by simpa using hcm
  have hle : s1.heap.objs.size ≤ c := by
    rcases e' with q | q | q | q | q | q <;> rw [q] <;> first | exact Nat.le_refl _ | exact Nat.le_add_right _ _
  exact I1.fpOk hle (I1.hok.fresh hle)
def tLZS3 (K : PySem.W.Frag) (ta : TA) : TE := fun σ H Q => ta σ H fun vs H1 => ∃ (a1 : Addr) (t1 : Bool) (xs1 : List V) (a2 : Addr) (t2 : Bool) (xs2 : List V) (a3 : Addr) (t3 : Bool) (xs3 : List V), vs = [V.ref a1, V.ref a2, V.ref a3] ∧ SqB K t1 H1 a1 xs1 ∧ SqB K t2 H1 a2 xs2 ∧ SqB K t3 H1 a3 xs3 ∧ (xs2.length = xs1.length ∧ xs3.length = xs1.length ∧ ∀ (H' : Hp) (S : Addr) (as : List Addr), Same H1 H' → H1 S = none → (∀ t ∈ as, H1 t = none) → S ∉ as → H' S = some (.lst (as.map V.ref)) → Paired (fun (t : Addr) (q : List V) => H' t = some (.tup q)) as (DZ.tv3 xs1 xs2 xs3) → Q (.ref S) H')
theorem pe_lzS3 {X : Cx} {e1 e2 e3 : Expr} {ta : TA} {p pos pl posl : Pos} {kc : Nat} {pc kp : Pos} (hc : X.calm = true) (hgl : Gl X "list") (hml : X.mg "list" = none) (hg : Gl X "zip") (hm : X.mg "zip" = none) (ha : PA X [e1, e2, e3] ta) (hs : starEach [e1, e2, e3] X.env = (false, eval e1 X.env) :: starEach [e2, e3] X.env := by rfl) (hpl : (backTo pos (starEach [e2, e3] X.env)).any (·.1) = false := by rfl)
    (hsl : starEach [(.Call (.Name "zip" p) [e1, e2, e3] [⟨some "strict", .Constant (.bool true) kc pc, kp⟩] pos)] X.env = (false, eval (.Call (.Name "zip" p) [e1, e2, e3] [⟨some "strict", .Constant (.bool true) kc pc, kp⟩] pos) X.env) :: starEach [] X.env := by rfl) :
    PE X (.Call (.Name "list" pl) [(.Call (.Name "zip" p) [e1, e2, e3] [⟨some "strict", .Constant (.bool true) kc pc, kp⟩] pos)] [] posl) (tLZS3 X.K ta) := by
  refine ⟨fun pins s σ H Q I h => ?_⟩
  refine wpAny_Call_Name_kw (ld_blt I hgl hml PyProof.Rows.boot_list ?_)
  refine PyProof.Rows.callWith_type1 ?_ hsl rfl
  rw [hsl]
  show wpAny _ _ (spliced ((false, eval (.Call (.Name "zip" p) [e1, e2, e3] [⟨some "strict", .Constant (.bool true) kc pc, kp⟩] pos) X.env) :: backTo posl (starEach [] X.env))) _ _ s
  refine Calls.spliced_cons ?_
  refine thn (mkS3 (fun a1 t1 xs1 a2 t2 xs2 a3 t3 xs3 H1 => (xs2.length = xs1.length ∧ xs3.length = xs1.length ∧ ∀ (H' : Hp) (S : Addr) (as : List Addr), Same H1 H' → H1 S = none → (∀ t ∈ as, H1 t = none) → S ∉ as → H' S = some (.lst (as.map V.ref)) → Paired (fun (t : Addr) (q : List V) => H' t = some (.tup q)) as (DZ.tv3 xs1 xs2 xs3) → Q (.ref S) H')) hg hm ha hs hpl I h) ?_
  rintro v s2 ⟨s1, h', H1, a1, t1, xs1, a2, t2, xs2, a3, t3, xs3, rfl, rfl, I1, hq1, hq2, hq3, ⟨el2, el3, q⟩, hz, hTI, hTO, g1, g2, g3, hsz, hk⟩
  refine Calls.spliced_nil ?_
  obtain ⟨its1, rv1, p1, sl1⟩ := seqB_at I1 hq1
  have la1 := DZ.ItemsAt.lt p1
  have vl1 := DZ.vals_len rv1
  obtain ⟨its2, rv2, p2, sl2⟩ := seqB_at I1 hq2
  have la2 := DZ.ItemsAt.lt p2
  have vl2 := DZ.vals_len rv2
  obtain ⟨its3, rv3, p3, sl3⟩ := seqB_at I1 hq3
  have la3 := DZ.ItemsAt.lt p3
  have vl3 := DZ.vals_len rv3
  have D := zip_sep3 (N := s1.heap.objs.size) (fp1 := [a1]) (fp2 := [a2]) (fp3 := [a3]) (fun b hb => by rw [List.mem_singleton.mp hb]; exact la1) (fun b hb => by rw [List.mem_singleton.mp hb]; exact la2) (fun b hb => by rw [List.mem_singleton.mp hb]; exact la3)
  have lN : ∀ k : Nat, k < 6 → s1.heap.objs.size + k < h'.objs.size := fun k hk => by rw [hsz]; exact Nat.add_lt_add_left hk _
  have Y := DZ.yieldsS3 (prog := X.prog) (w := X.w) (A := X.A.in1.in1) (t1 := t1) (t2 := t2) (t3 := t3) (xs1 := its1) (xs2 := its2) (xs3 := its3) (S := h'.objs.size) D (Nat.ne_of_lt (Nat.lt_of_lt_of_le la1 (Nat.le_add_right _ 0))) (Nat.ne_of_lt (Nat.lt_of_lt_of_le la2 (Nat.le_add_right _ 1))) (Nat.ne_of_lt (Nat.lt_of_lt_of_le la3 (Nat.le_add_right _ 2))) (I1.ok.hd hc) its1.length rfl (by omega) (by omega) (lN 5 (by omega)) (lN 3 (by omega)) (lN 4 (by omega)) (lN 0 (by omega)) (Nat.lt_of_lt_of_le la1 (Nat.le_of_lt (lN 0 (by omega)))) (lN 1 (by omega)) (Nat.lt_of_lt_of_le la2 (Nat.le_of_lt (lN 0 (by omega)))) (lN 2 (by omega)) (Nat.lt_of_lt_of_le la3 (Nat.le_of_lt (lN 0 (by omega))))
  have tl : (DZ.tp3 its1 its2 its3).length = its1.length := by
    unfold DZ.tp3
    simp only [List.length_zipWith]
    omega
  refine DZ.zl_call (s := { s1 with heap := h' }) Y (by omega) (by simp) (fun o => ?_) fun h2 tk acc c as hk2 hS hl hG hacc => ?_
  · have up : ∀ c o', h'.get? c = some o' → (h'.push o).get? c = some o' := fun c o' e => Heap.get?_push_of_some _ e
    exact ⟨.inl ⟨rfl, up _ _ hz, .none, .none, .none, up _ _ hTO⟩, up _ _ hTI, ⟨g1.move fun o q => up _ _ q, DZ.ItemsAt.move p1 fun o q => up _ _ (hk _ _ q)⟩, ⟨g2.move fun o q => up _ _ q, DZ.ItemsAt.move p2 fun o q => up _ _ (hk _ _ q)⟩, ⟨g3.move fun o q => up _ _ q, DZ.ItemsAt.move p3 fun o q => up _ _ (hk _ _ q)⟩⟩
  · have kk : ∀ b o, s1.heap.get? b = some o → h2.get? b = some o := fun b o e => hk2 b o (fun q => by
      have hb := Heap.lt_size e
      have e' : b = (s1.heap.objs.size + 5) ∨ b = (s1.heap.objs.size + 4) ∨ b = s1.heap.objs.size ∨ b = (s1.heap.objs.size + 1) ∨ b = (s1.heap.objs.size + 2) := by simpa using q
      rcases e' with q | q | q | q | q <;> rw [q] at hb <;> first | exact Nat.lt_irrefl _ hb | exact Nat.lt_irrefl _ (Nat.lt_of_le_of_lt (Nat.le_add_right _ _) hb)) (hk b o e)
    have pv : Paired Vals (DZ.tv3 xs1 xs2 xs3) (DZ.tp3 its1 its2 its3) := DZ.pzc rv1 (DZ.pz2 rv2 rv3)
    obtain ⟨H', k1, k2, k3, k4, k5, k6, J⟩ := DZ.tups_laid (tk := tk) I1 (by omega) pv DZ.tv3_len (by show s1.heap.objs.size ≤ h'.objs.size; omega) kk hS hl hG hacc
    exact ⟨.ref _, H', J, rfl, q H' _ as k1 k2 k3 k4 k5 k6⟩
def iZipS3 (da : DA) : DI := fun g k => da g fun rs g1 => ∃ (x1 : PyData) (t1 : Bool) (ds1 : List PyData) (x2 : PyData) (t2 : Bool) (ds2 : List PyData) (x3 : PyData) (t3 : Bool) (ds3 : List PyData), rs = [R.d x1, R.d x2, R.d x3] ∧ seqOf g1 (.d x1) = some (t1, ds1) ∧ seqOf g1 (.d x2) = some (t2, ds2) ∧ seqOf g1 (.d x3) = some (t3, ds3) ∧ ds2.length = ds1.length ∧ ds3.length = ds1.length ∧ k (zip3 ds1 ds2 ds3) g1
def dLZS3 (da : DA) : DE := fun g k => da g fun rs g1 => ∃ (r1 : R) (t1 : Bool) (ds1 : List PyData) (r2 : R) (t2 : Bool) (ds2 : List PyData) (r3 : R) (t3 : Bool) (ds3 : List PyData), rs = [r1, r2, r3] ∧ seqOf g1 r1 = some (t1, ds1) ∧ seqOf g1 r2 = some (t2, ds2) ∧ seqOf g1 r3 = some (t3, ds3) ∧ ds2.length = ds1.length ∧ ds3.length = ds1.length ∧ k (.d (.list (zip3 ds1 ds2 ds3))) g1

theorem mkP2 {X : Cx} {e1 e2 : Expr} {ta : TA} {p pos : Pos} {pins : List (Addr × Obj)} {s : Shared} {σ : L2.St} {H : Hp} (R : Addr → Bool → List V → Addr → Bool → List V → Hp → Prop) (hg : Gl X "zip") (hm : X.mg "zip" = none) (ha : PA X [e1, e2] ta) (hs : starEach [e1, e2] X.env = (false, eval e1 X.env) :: starEach [e2] X.env := by rfl) (hpl : (backTo pos (starEach [e2] X.env)).any (·.1) = false := by rfl) (I : Inv X pins σ H s)
    (h : ta σ H fun vs H1 => ∃ (a1 : Addr) (t1 : Bool) (xs1 : List V) (a2 : Addr) (t2 : Bool) (xs2 : List V), vs = [V.ref a1, V.ref a2] ∧ SqB X.K t1 H1 a1 xs1 ∧ SqB X.K t2 H1 a2 xs2 ∧ R a1 t1 xs1 a2 t2 xs2 H1) :
    wpAny (model X.prog X.w) X.A (eval (.Call (.Name "zip" p) [e1, e2] [] pos) X.env) (fun v s2 => ∃ (s1 : Shared) (h' : Heap) (H1 : Hp) (a1 : Addr) (t1 : Bool) (xs1 : List V) (a2 : Addr) (t2 : Bool) (xs2 : List V), v = .ref (s1.heap.objs.size + 4) ∧ s2 = { s1 with heap := h' } ∧ Inv X pins σ H1 s1 ∧ SqB X.K t1 H1 a1 xs1 ∧ SqB X.K t2 H1 a2 xs2 ∧ R a1 t1 xs1 a2 t2 xs2 H1 ∧
      DZ.IsZP h' (s1.heap.objs.size + 4) (s1.heap.objs.size + 2) (s1.heap.objs.size + 3) .none false ∧ IsTupOf2 h' (s1.heap.objs.size + 2) (.ref s1.heap.objs.size) (.ref (s1.heap.objs.size + 1)) ∧ IsTupOf2 h' (s1.heap.objs.size + 3) .none .none ∧ DZ.IterAt t1 h' s1.heap.objs.size a1 0 ∧ DZ.IterAt t2 h' (s1.heap.objs.size + 1) a2 0 ∧ h'.objs.size = s1.heap.objs.size + 5 ∧ (∀ c o, s1.heap.get? c = some o → h'.get? c = some o)) X.xe s := by
  refine wpAny_Call_Name_kw (ld_blt I hg hm PyProof.Rows.boot_zip ?_)
  refine PyProof.Rows.callWith_type1 (thn (ha.run pos pins s σ H _ I h) fun us s2 ⟨vs, H2, I2, r1, q1⟩ => ?_) hs hpl
  obtain ⟨a1, t1, xs1, a2, t2, xs2, ex, hq1, hq2, q⟩ := q1
  subst ex
  have eus : us = [Value.ref a1, Value.ref a2] := by
    cases r1 with
    | cons r1a r1b =>
      cases r1b with
      | cons r2a r2b =>
        cases r2b
        cases r1a
        cases r2a
        rfl
  subst eus
  obtain ⟨its1, rv1, p1, _⟩ := seqB_at I2 hq1
  obtain ⟨its2, rv2, p2, _⟩ := seqB_at I2 hq2
  exact zip_begins2 (DZ.beginsB t1 a1 its1.toArray) (DZ.beginsB t2 a2 its2.toArray) p1 p2 fun h' hz hTI hTO g1 g2 hsz hk => ⟨s2, h', H2, a1, t1, xs1, a2, t2, xs2, rfl, rfl, I2, hq1, hq2, q, hz, hTI, hTO, DZ.IterAt.start g1, DZ.IterAt.start g2, hsz, hk⟩
def iZP2 (K : PySem.W.Frag) (ta : TA) : TI := fun σ H R => ta σ H fun vs H1 => ∃ (a1 : Addr) (t1 : Bool) (xs1 : List V) (a2 : Addr) (t2 : Bool) (xs2 : List V), vs = [V.ref a1, V.ref a2] ∧ SqB K t1 H1 a1 xs1 ∧ SqB K t2 H1 a2 xs2 ∧ R (ItZ2 K t1 a1 t2 a2) H1
theorem pi_zP2 {X : Cx} {e1 e2 : Expr} {ta : TA} {p pos tpos : Pos} {elts : List Expr} {kk : Nat} (hg : Gl X "zip") (hm : X.mg "zip" = none) (ha : PA X [e1, e2] ta) (hs : starEach [e1, e2] X.env = (false, eval e1 X.env) :: starEach [e2] X.env := by rfl) (hpl : (backTo pos (starEach [e2] X.env)).any (·.1) = false := by rfl) :
    PI X (.Tuple elts kk tpos) (.Call (.Name "zip" p) [e1, e2] [] pos) (iZP2 X.K ta) := by
  refine ⟨fun pins s σ H R I h => ?_⟩
  refine thn (mkP2 (fun a1 t1 xs1 a2 t2 xs2 H1 => R (ItZ2 X.K t1 a1 t2 a2) H1) hg hm ha hs hpl I h) ?_
  rintro v s2 ⟨s1, h', H1, a1, t1, xs1, a2, t2, xs2, rfl, rfl, I1, hq1, hq2, q, hz, hTI, hTO, g1, g2, hsz, hk⟩
  obtain ⟨its1, rv1, p1, _⟩ := seqB_at I1 hq1
  have la1 := DZ.ItemsAt.lt p1
  obtain ⟨its2, rv2, p2, _⟩ := seqB_at I1 hq2
  have la2 := DZ.ItemsAt.lt p2
  have D := zip_sep2 (N := s1.heap.objs.size) (fp1 := [a1]) (fp2 := [a2]) (fun b hb => by rw [List.mem_singleton.mp hb]; exact la1) (fun b hb => by rw [List.mem_singleton.mp hb]; exact la2)
  refine DZ.iterP hz ?_
  have I2 : Inv X pins σ H1 { s1 with heap := h' } := I1.kept (t' := s1.toks) hk
  refine ⟨(s1.heap.objs.size + 4), [(s1.heap.objs.size + 4), (s1.heap.objs.size + 2), (s1.heap.objs.size + 3), s1.heap.objs.size, (s1.heap.objs.size + 1)], _, _, H1, rfl, I2, turnP2 D (Nat.ne_of_lt (Nat.lt_of_lt_of_le la1 (Nat.le_add_right _ 0))) (Nat.ne_of_lt (Nat.lt_of_lt_of_le la2 (Nat.le_add_right _ 1))), ⟨hz, hTI, ⟨_, _, hTO⟩, g1, g2⟩, fun c hcm => ?_, q⟩
  have e' : c = (s1.heap.objs.size + 4) ∨ c = (s1.heap.objs.size + 2) ∨ c = (s1.heap.objs.size + 3) ∨ c = s1.heap.objs.size ∨ c = (s1.heap.objs.size + 1) := by simpa using hcm
  have hle : s1.heap.objs.size ≤ c := by
    rcases e' with q | q | q | q | q <;> rw [q] <;> first | exact Nat.le_refl _ | exact Nat.le_add_right _ _
  exact I1.fpOk hle (I1.hok.fresh hle)
def tLZP2 (K : PySem.W.Frag) (ta : TA) : TE := fun σ H Q => ta σ H fun vs H1 => ∃ (a1 : Addr) (t1 : Bool) (xs1 : List V) (a2 : Addr) (t2 : Bool) (xs2 : List V), vs = [V.ref a1, V.ref a2] ∧ SqB K t1 H1 a1 xs1 ∧ SqB K t2 H1 a2 xs2 ∧ (xs2.length = xs1.length ∧ ∀ (H' : Hp) (S : Addr) (as : List Addr), Same H1 H' → H1 S = none → (∀ t ∈ as, H1 t = none) → S ∉ as → H' S = some (.lst (as.map V.ref)) → Paired (fun (t : Addr) (q : List V) => H' t = some (.tup q)) as (DZ.tv2 xs1 xs2) → Q (.ref S) H')
theorem pe_lzP2 {X : Cx} {e1 e2 : Expr} {ta : TA} {p pos pl posl : Pos} (hc : X.calm = true) (hgl : Gl X "list") (hml : X.mg "list" = none) (hg : Gl X "zip") (hm : X.mg "zip" = none) (ha : PA X [e1, e2] ta) (hs : starEach [e1, e2] X.env = (false, eval e1 X.env) :: starEach [e2] X.env := by rfl) (hpl : (backTo pos (starEach [e2] X.env)).any (·.1) = false := by rfl)
    (hsl : starEach [(.Call (.Name "zip" p) [e1, e2] [] pos)] X.env = (false, eval (.Call (.Name "zip" p) [e1, e2] [] pos) X.env) :: starEach [] X.env := by rfl) :
    PE X (.Call (.Name "list" pl) [(.Call (.Name "zip" p) [e1, e2] [] pos)] [] posl) (tLZP2 X.K ta) := by
  refine ⟨fun pins s σ H Q I h => ?_⟩
  refine wpAny_Call_Name_kw (ld_blt I hgl hml PyProof.Rows.boot_list ?_)
  refine PyProof.Rows.callWith_type1 ?_ hsl rfl
  rw [hsl]
  show wpAny _ _ (spliced ((false, eval (.Call (.Name "zip" p) [e1, e2] [] pos) X.env) :: backTo posl (starEach [] X.env))) _ _ s
  refine Calls.spliced_cons ?_
  refine thn (mkP2 (fun a1 t1 xs1 a2 t2 xs2 H1 => (xs2.length = xs1.length ∧ ∀ (H' : Hp) (S : Addr) (as : List Addr), Same H1 H' → H1 S = none → (∀ t ∈ as, H1 t = none) → S ∉ as → H' S = some (.lst (as.map V.ref)) → Paired (fun (t : Addr) (q : List V) => H' t = some (.tup q)) as (DZ.tv2 xs1 xs2) → Q (.ref S) H')) hg hm ha hs hpl I h) ?_
  rintro v s2 ⟨s1, h', H1, a1, t1, xs1, a2, t2, xs2, rfl, rfl, I1, hq1, hq2, ⟨el2, q⟩, hz, hTI, hTO, g1, g2, hsz, hk⟩
  refine Calls.spliced_nil ?_
  obtain ⟨its1, rv1, p1, sl1⟩ := seqB_at I1 hq1
  have la1 := DZ.ItemsAt.lt p1
  have vl1 := DZ.vals_len rv1
  obtain ⟨its2, rv2, p2, sl2⟩ := seqB_at I1 hq2
  have la2 := DZ.ItemsAt.lt p2
  have vl2 := DZ.vals_len rv2
  have D := zip_sep2 (N := s1.heap.objs.size) (fp1 := [a1]) (fp2 := [a2]) (fun b hb => by rw [List.mem_singleton.mp hb]; exact la1) (fun b hb => by rw [List.mem_singleton.mp hb]; exact la2)
  have lN : ∀ k : Nat, k < 5 → s1.heap.objs.size + k < h'.objs.size := fun k hk => by rw [hsz]; exact Nat.add_lt_add_left hk _
  have Y := DZ.yieldsP2 (prog := X.prog) (w := X.w) (A := X.A.in1.in1) (t1 := t1) (t2 := t2) (xs1 := its1) (xs2 := its2) (S := h'.objs.size) D (Nat.ne_of_lt (Nat.lt_of_lt_of_le la1 (Nat.le_add_right _ 0))) (Nat.ne_of_lt (Nat.lt_of_lt_of_le la2 (Nat.le_add_right _ 1))) (I1.ok.hd hc) its1.length rfl (by omega) (lN 4 (by omega)) (lN 2 (by omega)) (lN 3 (by omega)) (lN 0 (by omega)) (Nat.lt_of_lt_of_le la1 (Nat.le_of_lt (lN 0 (by omega)))) (lN 1 (by omega)) (Nat.lt_of_lt_of_le la2 (Nat.le_of_lt (lN 0 (by omega))))
  have tl : (DZ.tp2 its1 its2).length = its1.length := by
    unfold DZ.tp2
    simp only [List.length_zipWith]
    omega
  refine DZ.zl_call (s := { s1 with heap := h' }) Y (by omega) (by simp) (fun o => ?_) fun h2 tk acc c as hk2 hS hl hG hacc => ?_
  · have up : ∀ c o', h'.get? c = some o' → (h'.push o).get? c = some o' := fun c o' e => Heap.get?_push_of_some _ e
    exact ⟨.inl ⟨rfl, up _ _ hz, .none, .none, up _ _ hTO⟩, up _ _ hTI, ⟨g1.move fun o q => up _ _ q, DZ.ItemsAt.move p1 fun o q => up _ _ (hk _ _ q)⟩, ⟨g2.move fun o q => up _ _ q, DZ.ItemsAt.move p2 fun o q => up _ _ (hk _ _ q)⟩⟩
  · have kk : ∀ b o, s1.heap.get? b = some o → h2.get? b = some o := fun b o e => hk2 b o (fun q => by
      have hb := Heap.lt_size e
      have e' : b = (s1.heap.objs.size + 4) ∨ b = (s1.heap.objs.size + 3) ∨ b = s1.heap.objs.size ∨ b = (s1.heap.objs.size + 1) := by simpa using q
      rcases e' with q | q | q | q <;> rw [q] at hb <;> first | exact Nat.lt_irrefl _ hb | exact Nat.lt_irrefl _ (Nat.lt_of_le_of_lt (Nat.le_add_right _ _) hb)) (hk b o e)
    have pv : Paired Vals (DZ.tv2 xs1 xs2) (DZ.tp2 its1 its2) := DZ.pz2 rv1 rv2
    obtain ⟨H', k1, k2, k3, k4, k5, k6, J⟩ := DZ.tups_laid (tk := tk) I1 (by omega) pv DZ.tv2_len (by show s1.heap.objs.size ≤ h'.objs.size; omega) kk hS hl hG hacc
    exact ⟨.ref _, H', J, rfl, q H' _ as k1 k2 k3 k4 k5 k6⟩
def iZipP2 (da : DA) : DI := fun g k => da g fun rs g1 => ∃ (x1 : PyData) (t1 : Bool) (ds1 : List PyData) (x2 : PyData) (t2 : Bool) (ds2 : List PyData), rs = [R.d x1, R.d x2] ∧ seqOf g1 (.d x1) = some (t1, ds1) ∧ seqOf g1 (.d x2) = some (t2, ds2) ∧ ds2.length = ds1.length ∧ k (zip2 ds1 ds2) g1
def dLZP2 (da : DA) : DE := fun g k => da g fun rs g1 => ∃ (r1 : R) (t1 : Bool) (ds1 : List PyData) (r2 : R) (t2 : Bool) (ds2 : List PyData), rs = [r1, r2] ∧ seqOf g1 r1 = some (t1, ds1) ∧ seqOf g1 r2 = some (t2, ds2) ∧ ds2.length = ds1.length ∧ k (.d (.list (zip2 ds1 ds2))) g1

theorem mkP3 {X : Cx} {e1 e2 e3 : Expr} {ta : TA} {p pos : Pos} {pins : List (Addr × Obj)} {s : Shared} {σ : L2.St} {H : Hp} (R : Addr → Bool → List V → Addr → Bool → List V → Addr → Bool → List V → Hp → Prop) (hg : Gl X "zip") (hm : X.mg "zip" = none) (ha : PA X [e1, e2, e3] ta) (hs : starEach [e1, e2, e3] X.env = (false, eval e1 X.env) :: starEach [e2, e3] X.env := by rfl) (hpl : (backTo pos (starEach [e2, e3] X.env)).any (·.1) = false := by rfl) (I : Inv X pins σ H s)
    (h : ta σ H fun vs H1 => ∃ (a1 : Addr) (t1 : Bool) (xs1 : List V) (a2 : Addr) (t2 : Bool) (xs2 : List V) (a3 : Addr) (t3 : Bool) (xs3 : List V), vs = [V.ref a1, V.ref a2, V.ref a3] ∧ SqB X.K t1 H1 a1 xs1 ∧ SqB X.K t2 H1 a2 xs2 ∧ SqB X.K t3 H1 a3 xs3 ∧ R a1 t1 xs1 a2 t2 xs2 a3 t3 xs3 H1) :
    wpAny (model X.prog X.w) X.A (eval (.Call (.Name "zip" p) [e1, e2, e3] [] pos) X.env) (fun v s2 => ∃ (s1 : Shared) (h' : Heap) (H1 : Hp) (a1 : Addr) (t1 : Bool) (xs1 : List V) (a2 : Addr) (t2 : Bool) (xs2 : List V) (a3 : Addr) (t3 : Bool) (xs3 : List V), v = .ref (s1.heap.objs.size + 5) ∧ s2 = { s1 with heap := h' } ∧ Inv X pins σ H1 s1 ∧ SqB X.K t1 H1 a1 xs1 ∧ SqB X.K t2 H1 a2 xs2 ∧ SqB X.K t3 H1 a3 xs3 ∧ R a1 t1 xs1 a2 t2 xs2 a3 t3 xs3 H1 ∧
      DZ.IsZP h' (s1.heap.objs.size + 5) (s1.heap.objs.size + 3) (s1.heap.objs.size + 4) .none false ∧ IsTupOf3 h' (s1.heap.objs.size + 3) (.ref s1.heap.objs.size) (.ref (s1.heap.objs.size + 1)) (.ref (s1.heap.objs.size + 2)) ∧ IsTupOf3 h' (s1.heap.objs.size + 4) .none .none .none ∧ DZ.IterAt t1 h' s1.heap.objs.size a1 0 ∧ DZ.IterAt t2 h' (s1.heap.objs.size + 1) a2 0 ∧ DZ.IterAt t3 h' (s1.heap.objs.size + 2) a3 0 ∧ h'.objs.size = s1.heap.objs.size + 6 ∧ (∀ c o, s1.heap.get? c = some o → h'.get? c = some o)) X.xe s := by
  refine wpAny_Call_Name_kw (ld_blt I hg hm PyProof.Rows.boot_zip ?_)
  refine PyProof.Rows.callWith_type1 (thn (ha.run pos pins s σ H _ I h) fun us s2 ⟨vs, H2, I2, r1, q1⟩ => ?_) hs hpl
  obtain ⟨a1, t1, xs1, a2, t2, xs2, a3, t3, xs3, ex, hq1, hq2, hq3, q⟩ := q1
  subst ex
  have eus : us = [Value.ref a1, Value.ref a2, Value.ref a3] := by
    cases r1 with
    | cons r1a r1b =>
      cases r1b with
      | cons r2a r2b =>
        cases r2b with
        | cons r3a r3b =>
          cases r3b
          cases r1a
          cases r2a
          cases r3a
          rfl
  subst eus
  obtain ⟨its1, rv1, p1, _⟩ := seqB_at I2 hq1
  obtain ⟨its2, rv2, p2, _⟩ := seqB_at I2 hq2
  obtain ⟨its3, rv3, p3, _⟩ := seqB_at I2 hq3
  exact zip_begins3 (DZ.beginsB t1 a1 its1.toArray) (DZ.beginsB t2 a2 its2.toArray) (DZ.beginsB t3 a3 its3.toArray) p1 p2 p3 fun h' hz hTI hTO g1 g2 g3 hsz hk => ⟨s2, h', H2, a1, t1, xs1, a2, t2, xs2, a3, t3, xs3, rfl, rfl, I2, hq1, hq2, hq3, q, hz, hTI, hTO, DZ.IterAt.start g1, DZ.IterAt.start g2, DZ.IterAt.start g3, hsz, hk⟩
def iZP3 (K : PySem.W.Frag) (ta : TA) : TI := fun σ H R => ta σ H fun vs H1 => ∃ (a1 : Addr) (t1 : Bool) (xs1 : List V) (a2 : Addr) (t2 : Bool) (xs2 : List V) (a3 : Addr) (t3 : Bool) (xs3 : List V), vs = [V.ref a1, V.ref a2, V.ref a3] ∧ SqB K t1 H1 a1 xs1 ∧ SqB K t2 H1 a2 xs2 ∧ SqB K t3 H1 a3 xs3 ∧ R (ItZ3 K t1 a1 t2 a2 t3 a3) H1
theorem pi_zP3 {X : Cx} {e1 e2 e3 : Expr} {ta : TA} {p pos tpos : Pos} {elts : List Expr} {kk : Nat} (hg : Gl X "zip") (hm : X.mg "zip" = none) (ha : PA X [e1, e2, e3] ta) (hs : starEach [e1, e2, e3] X.env = (false, eval e1 X.env) :: starEach [e2, e3] X.env := by rfl) (hpl : (backTo pos (starEach [e2, e3] X.env)).any (·.1) = false := by rfl) :
    PI X (.Tuple elts kk tpos) (.Call (.Name "zip" p) [e1, e2, e3] [] pos) (iZP3 X.K ta) := by
  refine ⟨fun pins s σ H R I h => ?_⟩
  refine thn (mkP3 (fun a1 t1 xs1 a2 t2 xs2 a3 t3 xs3 H1 => R (ItZ3 X.K t1 a1 t2 a2 t3 a3) H1) hg hm ha hs hpl I h) ?_
  rintro v s2 ⟨s1, h', H1, a1, t1, xs1, a2, t2, xs2, a3, t3, xs3, rfl, rfl, I1, hq1, hq2, hq3, q, hz, hTI, hTO, g1, g2, g3, hsz, hk⟩
  obtain ⟨its1, rv1, p1, _⟩ := seqB_at I1 hq1
  have la1 := DZ.ItemsAt.lt p1
  obtain ⟨its2, rv2, p2, _⟩ := seqB_at I1 hq2
  have la2 := DZ.ItemsAt.lt p2
  obtain ⟨its3, rv3, p3, _⟩ := seqB_at I1 hq3
  have la3 := DZ.ItemsAt.lt p3
  have D := zip_sep3 (N := s1.heap.objs.size) (fp1 := [a1]) (fp2 := [a2]) (fp3 := [a3]) (fun b hb => by rw [List.mem_singleton.mp hb]; exact la1) (fun b hb => by rw [List.mem_singleton.mp hb]; exact la2) (fun b hb => by rw [List.mem_singleton.mp hb]; exact la3)
  refine DZ.iterP hz ?_
  have I2 : Inv X pins σ H1 { s1 with heap := h' } := I1.kept (t' := s1.toks) hk
  refine ⟨(s1.heap.objs.size + 5), [(s1.heap.objs.size + 5), (s1.heap.objs.size + 3), (s1.heap.objs.size + 4), s1.heap.objs.size, (s1.heap.objs.size + 1), (s1.heap.objs.size + 2)], _, _, H1, rfl, I2, turnP3 D (Nat.ne_of_lt (Nat.lt_of_lt_of_le la1 (Nat.le_add_right _ 0))) (Nat.ne_of_lt (Nat.lt_of_lt_of_le la2 (Nat.le_add_right _ 1))) (Nat.ne_of_lt (Nat.lt_of_lt_of_le la3 (Nat.le_add_right _ 2))), ⟨hz, hTI, ⟨_, _, _, hTO⟩, g1, g2, g3⟩, fun c hcm => ?_, q⟩
  have e' : c = (s1.heap.objs.size + 5) ∨ c = (s1.heap.objs.size + 3) ∨ c = (s1.heap.objs.size + 4) ∨ c = s1.heap.objs.size ∨ c = (s1.heap.objs.size + 1) ∨ c = (s1.heap.objs.size + 2) := by simpa using hcm
  have hle : s1.heap.objs.size ≤ c := by
    rcases e' with q | q | q | q | q | q <;> rw [q] <;> first | exact Nat.le_refl _ | exact Nat.le_add_right _ _
  exact I1.fpOk hle (I1.hok.fresh hle)
def tLZP3 (K : PySem.W.Frag) (ta : TA) : TE := fun σ H Q => ta σ H fun vs H1 => ∃ (a1 : Addr) (t1 : Bool) (xs1 : List V) (a2 : Addr) (t2 : Bool) (xs2 : List V) (a3 : Addr) (t3 : Bool) (xs3 : List V), vs = [V.ref a1, V.ref a2, V.ref a3] ∧ SqB K t1 H1 a1 xs1 ∧ SqB K t2 H1 a2 xs2 ∧ SqB K t3 H1 a3 xs3 ∧ (xs2.length = xs1.length ∧ xs3.length = xs1.length ∧ ∀ (H' : Hp) (S : Addr) (as : List Addr), Same H1 H' → H1 S = none → (∀ t ∈ as, H1 t = none) → S ∉ as → H' S = some (.lst (as.map V.ref)) → Paired (fun (t : Addr) (q : List V) => H' t = some (.tup q)) as (DZ.tv3 xs1 xs2 xs3) → Q (.ref S) H')
theorem pe_lzP3 {X : Cx} {e1 e2 e3 : Expr} {ta : TA} {p pos pl posl : Pos} (hc : X.calm = true) (hgl : Gl X "list") (hml : X.mg "list" = none) (hg : Gl X "zip") (hm : X.mg "zip" = none) (ha : PA X [e1, e2, e3] ta) (hs : starEach [e1, e2, e3] X.env = (false, eval e1 X.env) :: starEach [e2, e3] X.env := by rfl) (hpl : (backTo pos (starEach [e2, e3] X.env)).any (·.1) = false := by rfl)
    (hsl : starEach [(.Call (.Name "zip" p) [e1, e2, e3] [] pos)] X.env = (false, eval (.Call (.Name "zip" p) [e1, e2, e3] [] pos) X.env) :: starEach [] X.env := by rfl) :
    PE X (.Call (.Name "list" pl) [(.Call (.Name "zip" p) [e1, e2, e3] [] pos)] [] posl) (tLZP3 X.K ta) := by
  refine ⟨fun pins s σ H Q I h => ?_⟩
  refine wpAny_Call_Name_kw (ld_blt I hgl hml PyProof.Rows.boot_list ?_)
  refine PyProof.Rows.callWith_type1 ?_ hsl rfl
  rw [hsl]
  show wpAny _ _ (spliced ((false, eval (.Call (.Name "zip" p) [e1, e2, e3] [] pos) X.env) :: backTo posl (starEach [] X.env))) _ _ s
  refine Calls.spliced_cons ?_
  refine thn (mkP3 (fun a1 t1 xs1 a2 t2 xs2 a3 t3 xs3 H1 => (xs2.length = xs1.length ∧ xs3.length = xs1.length ∧ ∀ (H' : Hp) (S : Addr) (as : List Addr), Same H1 H' → H1 S = none → (∀ t ∈ as, H1 t = none) → S ∉ as → H' S = some (.lst (as.map V.ref)) → Paired (fun (t : Addr) (q : List V) => H' t = some (.tup q)) as (DZ.tv3 xs1 xs2 xs3) → Q (.ref S) H')) hg hm ha hs hpl I h) ?_
  rintro v s2 ⟨s1, h', H1, a1, t1, xs1, a2, t2, xs2, a3, t3, xs3, rfl, rfl, I1, hq1, hq2, hq3, ⟨el2, el3, q⟩, hz, hTI, hTO, g1, g2, g3, hsz, hk⟩
  refine Calls.spliced_nil ?_
  obtain ⟨its1, rv1, p1, sl1⟩ := seqB_at I1 hq1
  have la1 := DZ.ItemsAt.lt p1
  have vl1 := DZ.vals_len rv1
  obtain ⟨its2, rv2, p2, sl2⟩ := seqB_at I1 hq2
  have la2 := DZ.ItemsAt.lt p2
  have vl2 := DZ.vals_len rv2
  obtain ⟨its3, rv3, p3, sl3⟩ := seqB_at I1 hq3
  have la3 := DZ.ItemsAt.lt p3
  have vl3 := DZ.vals_len rv3
  have D := zip_sep3 (N := s1.heap.objs.size) (fp1 := [a1]) (fp2 := [a2]) (fp3 := [a3]) (fun b hb => by rw [List.mem_singleton.mp hb]; exact la1) (fun b hb => by rw [List.mem_singleton.mp hb]; exact la2) (fun b hb => by rw [List.mem_singleton.mp hb]; exact la3)
  have lN : ∀ k : Nat, k < 6 → s1.heap.objs.size + k < h'.objs.size := fun k hk => by rw [hsz]; exact Nat.add_lt_add_left hk _
  have Y := DZ.yieldsP3 (prog := X.prog) (w := X.w) (A := X.A.in1.in1) (t1 := t1) (t2 := t2) (t3 := t3) (xs1 := its1) (xs2 := its2) (xs3 := its3) (S := h'.objs.size) D (Nat.ne_of_lt (Nat.lt_of_lt_of_le la1 (Nat.le_add_right _ 0))) (Nat.ne_of_lt (Nat.lt_of_lt_of_le la2 (Nat.le_add_right _ 1))) (Nat.ne_of_lt (Nat.lt_of_lt_of_le la3 (Nat.le_add_right _ 2))) (I1.ok.hd hc) its1.length rfl (by omega) (by omega) (lN 5 (by omega)) (lN 3 (by omega)) (lN 4 (by omega)) (lN 0 (by omega)) (Nat.lt_of_lt_of_le la1 (Nat.le_of_lt (lN 0 (by omega)))) (lN 1 (by omega)) (Nat.lt_of_lt_of_le la2 (Nat.le_of_lt (lN 0 (by omega)))) (lN 2 (by omega)) (Nat.lt_of_lt_of_le la3 (Nat.le_of_lt (lN 0 (by omega))))
  have tl : (DZ.tp3 its1 its2 its3).length = its1.length := by
    unfold DZ.tp3
    simp only [List.length_zipWith]
    omega
  refine DZ.zl_call (s := { s1 with heap := h' }) Y (by omega) (by simp) (fun o => ?_) fun h2 tk acc c as hk2 hS hl hG hacc => ?_
  · have up : ∀ c o', h'.get? c = some o' → (h'.push o).get? c = some o' := fun c o' e => Heap.get?_push_of_some _ e
    exact ⟨.inl ⟨rfl, up _ _ hz, .none, .none, .none, up _ _ hTO⟩, up _ _ hTI, ⟨g1.move fun o q => up _ _ q, DZ.ItemsAt.move p1 fun o q => up _ _ (hk _ _ q)⟩, ⟨g2.move fun o q => up _ _ q, DZ.ItemsAt.move p2 fun o q => up _ _ (hk _ _ q)⟩, ⟨g3.move fun o q => up _ _ q, DZ.ItemsAt.move p3 fun o q => up _ _ (hk _ _ q)⟩⟩
  · have kk : ∀ b o, s1.heap.get? b = some o → h2.get? b = some o := fun b o e => hk2 b o (fun q => by
      have hb := Heap.lt_size e
      have e' : b = (s1.heap.objs.size + 5) ∨ b = (s1.heap.objs.size + 4) ∨ b = s1.heap.objs.size ∨ b = (s1.heap.objs.size + 1) ∨ b = (s1.heap.objs.size + 2) := by simpa using q
      rcases e' with q | q | q | q | q <;> rw [q] at hb <;> first | exact Nat.lt_irrefl _ hb | exact Nat.lt_irrefl _ (Nat.lt_of_le_of_lt (Nat.le_add_right _ _) hb)) (hk b o e)
    have pv : Paired Vals (DZ.tv3 xs1 xs2 xs3) (DZ.tp3 its1 its2 its3) := DZ.pzc rv1 (DZ.pz2 rv2 rv3)
    obtain ⟨H', k1, k2, k3, k4, k5, k6, J⟩ := DZ.tups_laid (tk := tk) I1 (by omega) pv DZ.tv3_len (by show s1.heap.objs.size ≤ h'.objs.size; omega) kk hS hl hG hacc
    exact ⟨.ref _, H', J, rfl, q H' _ as k1 k2 k3 k4 k5 k6⟩
def iZipP3 (da : DA) : DI := fun g k => da g fun rs g1 => ∃ (x1 : PyData) (t1 : Bool) (ds1 : List PyData) (x2 : PyData) (t2 : Bool) (ds2 : List PyData) (x3 : PyData) (t3 : Bool) (ds3 : List PyData), rs = [R.d x1, R.d x2, R.d x3] ∧ seqOf g1 (.d x1) = some (t1, ds1) ∧ seqOf g1 (.d x2) = some (t2, ds2) ∧ seqOf g1 (.d x3) = some (t3, ds3) ∧ ds2.length = ds1.length ∧ ds3.length = ds1.length ∧ k (zip3 ds1 ds2 ds3) g1
def dLZP3 (da : DA) : DE := fun g k => da g fun rs g1 => ∃ (r1 : R) (t1 : Bool) (ds1 : List PyData) (r2 : R) (t2 : Bool) (ds2 : List PyData) (r3 : R) (t3 : Bool) (ds3 : List PyData), rs = [r1, r2, r3] ∧ seqOf g1 r1 = some (t1, ds1) ∧ seqOf g1 r2 = some (t2, ds2) ∧ seqOf g1 r3 = some (t3, ds3) ∧ ds2.length = ds1.length ∧ ds3.length = ds1.length ∧ k (.d (.list (zip3 ds1 ds2 ds3))) g1
theorem seqd {K : PySem.W.Frag} {B : Hp} {g : G} {v : V} {x : PyData} {t : Bool} {ds : List PyData} (h : Dq B v x) (e : seqOf g (.d x) = some (t, ds)) : ∃ a xs, v = .ref a ∧ SqB K t B a xs ∧ DqAll B xs ds := by
  cases x with
  | list es =>
    have e : (false, es) = (t, ds) := Option.some.inj e
    cases e
    obtain ⟨a, xs, e1, e2, e3⟩ := dq_list h
    exact ⟨a, xs, e1, .inl (.inl e2), e3⟩
  | tuple es =>
    have e : (true, es) = (t, ds) := Option.some.inj e
    cases e
    obtain ⟨a, xs, e1, e2, e3⟩ := dq_tup h
    exact ⟨a, xs, e1, .inl (.inl e2), e3⟩
  | _ => cases e
theorem walk_z2 {K : PySem.W.Frag} {B0 : Hp} {a1 a2 : Addr} {t1 t2 : Bool} {xs1 xs2 : List V} {ds1 ds2 : List PyData} (h1 : SqB K t1 B0 a1 xs1) (h2 : SqB K t2 B0 a2 xs2) (d1 : DqAll B0 xs1 ds1) (d2 : DqAll B0 xs2 ds2) (el : ds2.length = ds1.length) : WalkOk K B0 (ItZ2 K t1 a1 t2 a2) (zip2 ds1 ds2) := fun F g tm s H B al i S e => by
  have q1 : SqB K t1 H a1 xs1 := same_b S.bh (same_b e h1)
  have q2 : SqB K t2 H a2 xs2 := same_b S.bh (same_b e h2)
  have l1 := dqall_len d1
  have l2 := dqall_len d2
  have zl : (zip2 ds1 ds2).length = ds1.length := by unfold zip2; rw [List.length_zipWith]; omega
  refine ⟨fun d hd => ?_, fun hi => ⟨xs1, xs2, q1, q2, by omega, by omega⟩⟩
  have hlt : i < ds1.length := by rw [← zl]; exact (List.getElem?_eq_some_iff.mp hd).1
  have g1 : ds1[i]? = some ds1[i] := List.getElem?_eq_getElem hlt
  have g2 : ds2[i]? = some ds2[i] := List.getElem?_eq_getElem (by omega)
  have ed : d = .tuple [ds1[i], ds2[i]] := by
    unfold zip2 at hd
    simp only [List.getElem?_zipWith, g1, g2] at hd
    exact (Option.some.inj hd).symm
  subst ed
  obtain ⟨x1, f1, c1⟩ := dqall_get d1 g1
  obtain ⟨x2, f2, c2⟩ := dqall_get d2 g2
  refine ⟨⟨xs1, xs2, x1, x2, xs1.length, q1, q2, rfl, by omega, f1, f2⟩, fun y H' ⟨T, y1, y2, ey, hT, eH, u1, u2⟩ => ?_⟩
  subst ey eH
  have e1 := u1 xs1 q1
  rw [f1] at e1
  cases e1
  have e2 := u2 xs2 q2
  rw [f2] at e2
  cases e2
  have nB : Same B (upd B T (.tup [x1, x2])) := same_new (S.bh.free hT)
  exact ⟨upd B T (.tup [x1, x2]), S.grow hT, nB, .tup upd_same (.cons (dq_mono (e.trans nB) c1) (.cons (dq_mono (e.trans nB) c2) .nil))⟩
theorem walk_z3 {K : PySem.W.Frag} {B0 : Hp} {a1 a2 a3 : Addr} {t1 t2 t3 : Bool} {xs1 xs2 xs3 : List V} {ds1 ds2 ds3 : List PyData} (h1 : SqB K t1 B0 a1 xs1) (h2 : SqB K t2 B0 a2 xs2) (h3 : SqB K t3 B0 a3 xs3) (d1 : DqAll B0 xs1 ds1) (d2 : DqAll B0 xs2 ds2) (d3 : DqAll B0 xs3 ds3) (el : ds2.length = ds1.length) (el3 : ds3.length = ds1.length) : WalkOk K B0 (ItZ3 K t1 a1 t2 a2 t3 a3) (zip3 ds1 ds2 ds3) := fun F g tm s H B al i S e => by
  have q1 : SqB K t1 H a1 xs1 := same_b S.bh (same_b e h1)
  have q2 : SqB K t2 H a2 xs2 := same_b S.bh (same_b e h2)
  have q3 : SqB K t3 H a3 xs3 := same_b S.bh (same_b e h3)
  have l1 := dqall_len d1
  have l2 := dqall_len d2
  have l3 := dqall_len d3
  have zl : (zip3 ds1 ds2 ds3).length = ds1.length := by unfold zip3 zip2; simp only [List.length_zipWith]; omega
  refine ⟨fun d hd => ?_, fun hi => ⟨xs1, xs2, xs3, q1, q2, q3, by omega, by omega, by omega⟩⟩
  have hlt : i < ds1.length := by rw [← zl]; exact (List.getElem?_eq_some_iff.mp hd).1
  have g1 : ds1[i]? = some ds1[i] := List.getElem?_eq_getElem hlt
  have g2 : ds2[i]? = some ds2[i] := List.getElem?_eq_getElem (by omega)
  have g3 : ds3[i]? = some ds3[i] := List.getElem?_eq_getElem (by omega)
  have ed : d = .tuple [ds1[i], ds2[i], ds3[i]] := by
    unfold zip3 zip2 at hd
    simp only [List.getElem?_zipWith, g1, g2, g3] at hd
    exact (Option.some.inj hd).symm
  subst ed
  obtain ⟨x1, f1, c1⟩ := dqall_get d1 g1
  obtain ⟨x2, f2, c2⟩ := dqall_get d2 g2
  obtain ⟨x3, f3, c3⟩ := dqall_get d3 g3
  refine ⟨⟨xs1, xs2, xs3, x1, x2, x3, xs1.length, q1, q2, q3, rfl, by omega, by omega, f1, f2, f3⟩, fun y H' ⟨T, y1, y2, y3, ey, hT, eH, u1, u2, u3⟩ => ?_⟩
  subst ey eH
  have e1 := u1 xs1 q1
  rw [f1] at e1
  cases e1
  have e2 := u2 xs2 q2
  rw [f2] at e2
  cases e2
  have e3 := u3 xs3 q3
  rw [f3] at e3
  cases e3
  have nB : Same B (upd B T (.tup [x1, x2, x3])) := same_new (S.bh.free hT)
  exact ⟨upd B T (.tup [x1, x2, x3]), S.grow hT, nB, .tup upd_same (.cons (dq_mono (e.trans nB) c1) (.cons (dq_mono (e.trans nB) c2) (.cons (dq_mono (e.trans nB) c3) .nil)))⟩
section
variable {X : Cx} {e1 e2 e3 : Expr} {da : DA} {p pos tpos pl posl : Pos} {kc kk : Nat} {pc kp : Pos} {elts : List Expr}
theorem pdi_zipS2 (hg : Gl X "zip") (hm : X.mg "zip" = none) (ha : PDA X [e1, e2] da) (hs : starEach [e1, e2] X.env = (false, eval e1 X.env) :: starEach [e2] X.env := by rfl) (hpl : (backTo pos (starEach [e2] X.env)).any (·.1) = false := by rfl) :
    PDI X (.Tuple elts kk tpos) (.Call (.Name "zip" p) [e1, e2] [⟨some "strict", .Constant (.bool true) kc pc, kp⟩] pos) (iZipS2 da) := pi_imp (pi_zS2 hg hm ha hs hpl) fun s H Q ⟨F, g, tm, k, B, al, S, hk, q⟩ => ⟨F, g, tm, _, B, al, S, hk, fun vs H1 rs g1 B1 al1 ⟨x1, t1, ds1, x2, t2, ds2, er, s1, s2, el2, hk1⟩ S1 pr => by
    subst er
    obtain ⟨v1, v2, rfl, h1, h2⟩ := pair2 pr
    obtain ⟨a1, xs1, rfl, b1, c1⟩ := seqd (K := X.K) h1 s1
    obtain ⟨a2, xs2, rfl, b2, c2⟩ := seqd (K := X.K) h2 s2
    exact ⟨a1, t1, xs1, a2, t2, xs2, rfl, same_b S1.bh b1, same_b S1.bh b2, q _ H1 _ g1 B1 al1 hk1 S1 (walk_z2 b1 b2 c1 c2 el2)⟩⟩
theorem pd_lzS2 (hc : X.calm = true) (hgl : Gl X "list") (hml : X.mg "list" = none) (hg : Gl X "zip") (hm : X.mg "zip" = none) (ha : PDA X [e1, e2] da) (hs : starEach [e1, e2] X.env = (false, eval e1 X.env) :: starEach [e2] X.env := by rfl) (hpl : (backTo pos (starEach [e2] X.env)).any (·.1) = false := by rfl)
    (hsl : starEach [.Call (.Name "zip" p) [e1, e2] [⟨some "strict", .Constant (.bool true) kc pc, kp⟩] pos] X.env = (false, eval (.Call (.Name "zip" p) [e1, e2] [⟨some "strict", .Constant (.bool true) kc pc, kp⟩] pos) X.env) :: starEach [] X.env := by rfl) :
    PD X (.Call (.Name "list" pl) [.Call (.Name "zip" p) [e1, e2] [⟨some "strict", .Constant (.bool true) kc pc, kp⟩] pos] [] posl) (dLZS2 da) := pe_imp (pe_lzS2 hc hgl hml hg hm ha hs hpl hsl) fun s H Q ⟨F, g, tm, k, B, al, S, hk, q⟩ => ⟨F, g, tm, _, B, al, S, hk, fun vs H1 rs g1 B1 al1 ⟨x1, t1, ds1, x2, t2, ds2, er, s1, s2, el2, hk1⟩ S1 pr => by
    subst er
    obtain ⟨v1, v2, rfl, h1, h2⟩ := pair2 pr
    obtain ⟨a1, xs1, rfl, b1, c1⟩ := S1.seq h1 s1
    have l1 := dqall_len c1
    obtain ⟨a2, xs2, rfl, b2, c2⟩ := S1.seq h2 s2
    have l2 := dqall_len c2
    refine ⟨a1, t1, xs1, a2, t2, xs2, rfl, b1, b2, by omega, fun H2 P as k1 k2 k3 k4 k5 k6 => ?_⟩
    have S2 := S1.growBy k1 (P :: as) (fun a ha => (List.mem_cons.mp ha).elim (fun z => z ▸ k2) fun z => k3 a z)
    have nB : Same B1 (fun a => if a ∈ P :: as then H2 a else B1 a) := fun a o z => by
      have na : a ∉ P :: as := fun y => by
        have w0 := S1.bh.free ((List.mem_cons.mp y).elim (fun z => z ▸ k2) fun z => k3 a z)
        rw [w0] at z
        cases z
      show (if a ∈ P :: as then H2 a else B1 a) = some o
      rw [if_neg na]; exact z
    refine q _ H2 (.d _) g1 _ al1 hk1 (S2.push (Dq.lst (show (if P ∈ P :: as then H2 P else B1 P) = some (.lst (as.map V.ref)) by rw [if_pos List.mem_cons_self]; exact k5) ?_))
    exact dz2 (dqall_mono nB c1) (dqall_mono nB c2) (paired_mem (fun a ha b e => by
      show (if a ∈ P :: as then H2 a else B1 a) = some (.tup b)
      rw [if_pos (List.mem_cons_of_mem _ ha)]; exact e) k6)⟩
theorem pdi_zipS3 (hg : Gl X "zip") (hm : X.mg "zip" = none) (ha : PDA X [e1, e2, e3] da) (hs : starEach [e1, e2, e3] X.env = (false, eval e1 X.env) :: starEach [e2, e3] X.env := by rfl) (hpl : (backTo pos (starEach [e2, e3] X.env)).any (·.1) = false := by rfl) :
    PDI X (.Tuple elts kk tpos) (.Call (.Name "zip" p) [e1, e2, e3] [⟨some "strict", .Constant (.bool true) kc pc, kp⟩] pos) (iZipS3 da) := pi_imp (pi_zS3 hg hm ha hs hpl) fun s H Q ⟨F, g, tm, k, B, al, S, hk, q⟩ => ⟨F, g, tm, _, B, al, S, hk, fun vs H1 rs g1 B1 al1 ⟨x1, t1, ds1, x2, t2, ds2, x3, t3, ds3, er, s1, s2, s3, el2, el3, hk1⟩ S1 pr => by
    subst er
    obtain ⟨v1, v2, v3, rfl, h1, h2, h3⟩ := pair3 pr
    obtain ⟨a1, xs1, rfl, b1, c1⟩ := seqd (K := X.K) h1 s1
    obtain ⟨a2, xs2, rfl, b2, c2⟩ := seqd (K := X.K) h2 s2
    obtain ⟨a3, xs3, rfl, b3, c3⟩ := seqd (K := X.K) h3 s3
    exact ⟨a1, t1, xs1, a2, t2, xs2, a3, t3, xs3, rfl, same_b S1.bh b1, same_b S1.bh b2, same_b S1.bh b3, q _ H1 _ g1 B1 al1 hk1 S1 (walk_z3 b1 b2 b3 c1 c2 c3 el2 el3)⟩⟩
theorem pd_lzS3 (hc : X.calm = true) (hgl : Gl X "list") (hml : X.mg "list" = none) (hg : Gl X "zip") (hm : X.mg "zip" = none) (ha : PDA X [e1, e2, e3] da) (hs : starEach [e1, e2, e3] X.env = (false, eval e1 X.env) :: starEach [e2, e3] X.env := by rfl) (hpl : (backTo pos (starEach [e2, e3] X.env)).any (·.1) = false := by rfl)
    (hsl : starEach [.Call (.Name "zip" p) [e1, e2, e3] [⟨some "strict", .Constant (.bool true) kc pc, kp⟩] pos] X.env = (false, eval (.Call (.Name "zip" p) [e1, e2, e3] [⟨some "strict", .Constant (.bool true) kc pc, kp⟩] pos) X.env) :: starEach [] X.env := by rfl) :
    PD X (.Call (.Name "list" pl) [.Call (.Name "zip" p) [e1, e2, e3] [⟨some "strict", .Constant (.bool true) kc pc, kp⟩] pos] [] posl) (dLZS3 da) := pe_imp (pe_lzS3 hc hgl hml hg hm ha hs hpl hsl) fun s H Q ⟨F, g, tm, k, B, al, S, hk, q⟩ => ⟨F, g, tm, _, B, al, S, hk, fun vs H1 rs g1 B1 al1 ⟨x1, t1, ds1, x2, t2, ds2, x3, t3, ds3, er, s1, s2, s3, el2, el3, hk1⟩ S1 pr => by
    subst er
    obtain ⟨v1, v2, v3, rfl, h1, h2, h3⟩ := pair3 pr
    obtain ⟨a1, xs1, rfl, b1, c1⟩ := S1.seq h1 s1
    have l1 := dqall_len c1
    obtain ⟨a2, xs2, rfl, b2, c2⟩ := S1.seq h2 s2
    have l2 := dqall_len c2
    obtain ⟨a3, xs3, rfl, b3, c3⟩ := S1.seq h3 s3
    have l3 := dqall_len c3
    refine ⟨a1, t1, xs1, a2, t2, xs2, a3, t3, xs3, rfl, b1, b2, b3, by omega, by omega, fun H2 P as k1 k2 k3 k4 k5 k6 => ?_⟩
    have S2 := S1.growBy k1 (P :: as) (fun a ha => (List.mem_cons.mp ha).elim (fun z => z ▸ k2) fun z => k3 a z)
    have nB : Same B1 (fun a => if a ∈ P :: as then H2 a else B1 a) := fun a o z => by
      have na : a ∉ P :: as := fun y => by
        have w0 := S1.bh.free ((List.mem_cons.mp y).elim (fun z => z ▸ k2) fun z => k3 a z)
        rw [w0] at z
        cases z
      show (if a ∈ P :: as then H2 a else B1 a) = some o
      rw [if_neg na]; exact z
    refine q _ H2 (.d _) g1 _ al1 hk1 (S2.push (Dq.lst (show (if P ∈ P :: as then H2 P else B1 P) = some (.lst (as.map V.ref)) by rw [if_pos List.mem_cons_self]; exact k5) ?_))
    exact dz3 (dqall_mono nB c1) (dqall_mono nB c2) (dqall_mono nB c3) (paired_mem (fun a ha b e => by
      show (if a ∈ P :: as then H2 a else B1 a) = some (.tup b)
      rw [if_pos (List.mem_cons_of_mem _ ha)]; exact e) k6)⟩
theorem pdi_zipP2 (hg : Gl X "zip") (hm : X.mg "zip" = none) (ha : PDA X [e1, e2] da) (hs : starEach [e1, e2] X.env = (false, eval e1 X.env) :: starEach [e2] X.env := by rfl) (hpl : (backTo pos (starEach [e2] X.env)).any (·.1) = false := by rfl) :
    PDI X (.Tuple elts kk tpos) (.Call (.Name "zip" p) [e1, e2] [] pos) (iZipP2 da) := pi_imp (pi_zP2 hg hm ha hs hpl) fun s H Q ⟨F, g, tm, k, B, al, S, hk, q⟩ => ⟨F, g, tm, _, B, al, S, hk, fun vs H1 rs g1 B1 al1 ⟨x1, t1, ds1, x2, t2, ds2, er, s1, s2, el2, hk1⟩ S1 pr => by
    subst er
    obtain ⟨v1, v2, rfl, h1, h2⟩ := pair2 pr
    obtain ⟨a1, xs1, rfl, b1, c1⟩ := seqd (K := X.K) h1 s1
    obtain ⟨a2, xs2, rfl, b2, c2⟩ := seqd (K := X.K) h2 s2
    exact ⟨a1, t1, xs1, a2, t2, xs2, rfl, same_b S1.bh b1, same_b S1.bh b2, q _ H1 _ g1 B1 al1 hk1 S1 (walk_z2 b1 b2 c1 c2 el2)⟩⟩
theorem pd_lzP2 (hc : X.calm = true) (hgl : Gl X "list") (hml : X.mg "list" = none) (hg : Gl X "zip") (hm : X.mg "zip" = none) (ha : PDA X [e1, e2] da) (hs : starEach [e1, e2] X.env = (false, eval e1 X.env) :: starEach [e2] X.env := by rfl) (hpl : (backTo pos (starEach [e2] X.env)).any (·.1) = false := by rfl)
    (hsl : starEach [.Call (.Name "zip" p) [e1, e2] [] pos] X.env = (false, eval (.Call (.Name "zip" p) [e1, e2] [] pos) X.env) :: starEach [] X.env := by rfl) :
    PD X (.Call (.Name "list" pl) [.Call (.Name "zip" p) [e1, e2] [] pos] [] posl) (dLZP2 da) := pe_imp (pe_lzP2 hc hgl hml hg hm ha hs hpl hsl) fun s H Q ⟨F, g, tm, k, B, al, S, hk, q⟩ => ⟨F, g, tm, _, B, al, S, hk, fun vs H1 rs g1 B1 al1 ⟨x1, t1, ds1, x2, t2, ds2, er, s1, s2, el2, hk1⟩ S1 pr => by
    subst er
    obtain ⟨v1, v2, rfl, h1, h2⟩ := pair2 pr
    obtain ⟨a1, xs1, rfl, b1, c1⟩ := S1.seq h1 s1
    have l1 := dqall_len c1
    obtain ⟨a2, xs2, rfl, b2, c2⟩ := S1.seq h2 s2
    have l2 := dqall_len c2
    refine ⟨a1, t1, xs1, a2, t2, xs2, rfl, b1, b2, by omega, fun H2 P as k1 k2 k3 k4 k5 k6 => ?_⟩
    have S2 := S1.growBy k1 (P :: as) (fun a ha => (List.mem_cons.mp ha).elim (fun z => z ▸ k2) fun z => k3 a z)
    have nB : Same B1 (fun a => if a ∈ P :: as then H2 a else B1 a) := fun a o z => by
      have na : a ∉ P :: as := fun y => by
        have w0 := S1.bh.free ((List.mem_cons.mp y).elim (fun z => z ▸ k2) fun z => k3 a z)
        rw [w0] at z
        cases z
      show (if a ∈ P :: as then H2 a else B1 a) = some o
      rw [if_neg na]; exact z
    refine q _ H2 (.d _) g1 _ al1 hk1 (S2.push (Dq.lst (show (if P ∈ P :: as then H2 P else B1 P) = some (.lst (as.map V.ref)) by rw [if_pos List.mem_cons_self]; exact k5) ?_))
    exact dz2 (dqall_mono nB c1) (dqall_mono nB c2) (paired_mem (fun a ha b e => by
      show (if a ∈ P :: as then H2 a else B1 a) = some (.tup b)
      rw [if_pos (List.mem_cons_of_mem _ ha)]; exact e) k6)⟩
theorem pdi_zipP3 (hg : Gl X "zip") (hm : X.mg "zip" = none) (ha : PDA X [e1, e2, e3] da) (hs : starEach [e1, e2, e3] X.env = (false, eval e1 X.env) :: starEach [e2, e3] X.env := by rfl) (hpl : (backTo pos (starEach [e2, e3] X.env)).any (·.1) = false := by rfl) :
    PDI X (.Tuple elts kk tpos) (.Call (.Name "zip" p) [e1, e2, e3] [] pos) (iZipP3 da) := pi_imp (pi_zP3 hg hm ha hs hpl) fun s H Q ⟨F, g, tm, k, B, al, S, hk, q⟩ => ⟨F, g, tm, _, B, al, S, hk, fun vs H1 rs g1 B1 al1 ⟨x1, t1, ds1, x2, t2, ds2, x3, t3, ds3, er, s1, s2, s3, el2, el3, hk1⟩ S1 pr => by
    subst er
    obtain ⟨v1, v2, v3, rfl, h1, h2, h3⟩ := pair3 pr
    obtain ⟨a1, xs1, rfl, b1, c1⟩ := seqd (K := X.K) h1 s1
    obtain ⟨a2, xs2, rfl, b2, c2⟩ := seqd (K := X.K) h2 s2
    obtain ⟨a3, xs3, rfl, b3, c3⟩ := seqd (K := X.K) h3 s3
    exact ⟨a1, t1, xs1, a2, t2, xs2, a3, t3, xs3, rfl, same_b S1.bh b1, same_b S1.bh b2, same_b S1.bh b3, q _ H1 _ g1 B1 al1 hk1 S1 (walk_z3 b1 b2 b3 c1 c2 c3 el2 el3)⟩⟩
theorem pd_lzP3 (hc : X.calm = true) (hgl : Gl X "list") (hml : X.mg "list" = none) (hg : Gl X "zip") (hm : X.mg "zip" = none) (ha : PDA X [e1, e2, e3] da) (hs : starEach [e1, e2, e3] X.env = (false, eval e1 X.env) :: starEach [e2, e3] X.env := by rfl) (hpl : (backTo pos (starEach [e2, e3] X.env)).any (·.1) = false := by rfl)
    (hsl : starEach [.Call (.Name "zip" p) [e1, e2, e3] [] pos] X.env = (false, eval (.Call (.Name "zip" p) [e1, e2, e3] [] pos) X.env) :: starEach [] X.env := by rfl) :
    PD X (.Call (.Name "list" pl) [.Call (.Name "zip" p) [e1, e2, e3] [] pos] [] posl) (dLZP3 da) := pe_imp (pe_lzP3 hc hgl hml hg hm ha hs hpl hsl) fun s H Q ⟨F, g, tm, k, B, al, S, hk, q⟩ => ⟨F, g, tm, _, B, al, S, hk, fun vs H1 rs g1 B1 al1 ⟨x1, t1, ds1, x2, t2, ds2, x3, t3, ds3, er, s1, s2, s3, el2, el3, hk1⟩ S1 pr => by
    subst er
    obtain ⟨v1, v2, v3, rfl, h1, h2, h3⟩ := pair3 pr
    obtain ⟨a1, xs1, rfl, b1, c1⟩ := S1.seq h1 s1
    have l1 := dqall_len c1
    obtain ⟨a2, xs2, rfl, b2, c2⟩ := S1.seq h2 s2
    have l2 := dqall_len c2
    obtain ⟨a3, xs3, rfl, b3, c3⟩ := S1.seq h3 s3
    have l3 := dqall_len c3
    refine ⟨a1, t1, xs1, a2, t2, xs2, a3, t3, xs3, rfl, b1, b2, b3, by omega, by omega, fun H2 P as k1 k2 k3 k4 k5 k6 => ?_⟩
    have S2 := S1.growBy k1 (P :: as) (fun a ha => (List.mem_cons.mp ha).elim (fun z => z ▸ k2) fun z => k3 a z)
    have nB : Same B1 (fun a => if a ∈ P :: as then H2 a else B1 a) := fun a o z => by
      have na : a ∉ P :: as := fun y => by
        have w0 := S1.bh.free ((List.mem_cons.mp y).elim (fun z => z ▸ k2) fun z => k3 a z)
        rw [w0] at z
        cases z
      show (if a ∈ P :: as then H2 a else B1 a) = some o
      rw [if_neg na]; exact z
    refine q _ H2 (.d _) g1 _ al1 hk1 (S2.push (Dq.lst (show (if P ∈ P :: as then H2 P else B1 P) = some (.lst (as.map V.ref)) by rw [if_pos List.mem_cons_self]; exact k5) ?_))
    exact dz3 (dqall_mono nB c1) (dqall_mono nB c2) (dqall_mono nB c3) (paired_mem (fun a ha b e => by
      show (if a ∈ P :: as then H2 a else B1 a) = some (.tup b)
      rw [if_pos (List.mem_cons_of_mem _ ha)]; exact e) k6)⟩
end
end DL

set_option Elab.async false
set_option linter.all false
set_option maxRecDepth 100000
set_option maxHeartbeats 4000000
set_option autoImplicit false
namespace DL
open PySem PySem.Spec PyProof.Rows L2
theorem un65 {k : Nat} {A : Around} (r : Room k A) : A.units + 65 < cLine := by have := r.un; omega
theorem un1 {k : Nat} {A : Around} (r : Room k A) : A.units + 1 < cLine := by have := r.un; omega
/-! ### a walk over a list or a tuple -/
theorem seqr {K : PySem.W.Frag} {B : Hp} {al : List Addr} {g : G} {v : V} {r : R} {t : Bool} {ds : List PyData} (h : RvOk K B al v r) (hn : noO r = true) (e : seqOf g r = some (t, ds)) : ∃ a xs, v = .ref a ∧ SqB K t B a xs ∧ DqAll B xs ds := by
  cases r with
  | d x => exact seqd h e
  | o j => cases hn
  | s ns =>
    have e : (false, ns.map PyData.int) = (t, ds) := Option.some.inj e
    cases e
    obtain ⟨a, e1, e2⟩ := h
    exact ⟨a, ns.map V.int, e1, e2, dqall_mkints ns⟩
section
variable {X : Cx} {st : Stmt} {e c tg : Expr} {pos : Pos} {K : PySem.W.Frag}
def iSqB (K : PySem.W.Frag) (te : TE) : TI := fun σ H R => te σ H fun v H1 => ∃ a, v = .ref a ∧ (((∃ xs, SqL K H1 a xs) ∧ R (Itl K a) H1) ∨ ((∃ xs, SqT K H1 a xs) ∧ R (Itt K a) H1))
theorem pi_sqB {l : Expr} {tl : TE} (hl : PE X l tl) : PI X tg l (iSqB X.K tl) := by
  refine ⟨fun pins s σ H R I h => ?_⟩
  refine thn (hl.run pins s σ H _ I h) fun v s1 ⟨x, H1, I1, r1, q1⟩ => ?_
  obtain ⟨a, e, q1⟩ := q1
  subst e
  cases r1
  have fp : ∀ b ∈ [s1.heap.objs.size], FpOk X pins H1 b := fun b hb => by
    have e : b = s1.heap.objs.size := by simpa using hb
    subst e
    exact I1.fpOk (Nat.le_refl _) (I1.hok.fresh (Nat.le_refl _))
  rcases q1 with ⟨⟨xs, hq⟩, q⟩ | ⟨⟨xs, hq⟩, q⟩
  · obtain ⟨its, rv, p, hz⟩ := I1.list hq
    refine wpAny_pyIter_list p.isList ?_
    exact ⟨s1.heap.objs.size, [s1.heap.objs.size], _, _, H1, rfl, I1.kept (t' := s1.toks) fun b o e => Heap.get?_push_of_some _ e, turn_list a _, ⟨_, Heap.get?_push_size _ rfl, rfl, rfl⟩, fp, q⟩
  · obtain ⟨its, rv, p, hz⟩ := I1.tuple hq
    refine wpAny_pyIter_tuple (show s1.heap.IsTuple a its.toArray from p) ?_
    exact ⟨s1.heap.objs.size, [s1.heap.objs.size], _, _, H1, rfl, I1.kept (t' := s1.toks) fun b o e => Heap.get?_push_of_some _ e, turn_tuple a _, ⟨_, Heap.get?_push_size _ rfl, rfl, rfl⟩, fp, q⟩
def iSq (de : DE) : DI := fun g k => de g fun r g1 => ∃ t ds, noO r = true ∧ seqOf g1 r = some (t, ds) ∧ k ds g1
theorem walk_t {B : Hp} {a : Addr} {xs : List V} {ds : List PyData} (ha : SqT K B a xs) (h : DqAll B xs ds) : WalkOk K B (Itt K a) ds := fun F g tm s H B1 al i S e => by
  have hq : SqT K H a xs := same_t S.bh (same_t e ha)
  refine ⟨fun d hd => ?_, fun hi => ⟨xs, hq, by rw [dqall_len h]; omega⟩⟩
  obtain ⟨x, h1, h2⟩ := dqall_get h hd
  refine ⟨⟨xs, x, hq, h1⟩, fun y H' ⟨e1, e2⟩ => ?_⟩
  subst e1
  have ey := e2 xs hq
  rw [h1] at ey
  cases ey
  exact ⟨B1, S, Same.refl _, dq_mono e h2⟩
theorem walk_l {B : Hp} {a : Addr} {xs : List V} {ds : List PyData} (ha : SqL K B a xs) (h : DqAll B xs ds) : WalkOk K B (Itl K a) ds := fun F g tm s H B1 al i S e => by
  have hq : SqL K H a xs := same_l S.bh (same_l e ha)
  refine ⟨fun d hd => ?_, fun hi => ⟨xs, hq, by rw [dqall_len h]; omega⟩⟩
  obtain ⟨x, h1, h2⟩ := dqall_get h hd
  refine ⟨⟨xs, x, hq, h1⟩, fun y H' ⟨e1, e2⟩ => ?_⟩
  subst e1
  have ey := e2 xs hq
  rw [h1] at ey
  cases ey
  exact ⟨B1, S, Same.refl _, dq_mono e h2⟩
theorem pdi_seq {l : Expr} {de : DE} (h : PD X l de) : PDI X tg l (iSq de) := pi_imp (pi_sqB h) fun s H Q ⟨F, g, tm, k, B, al, S, hk, q⟩ => ⟨F, g, tm, _, B, al, S, hk, fun v H1 r g1 B1 al1 ⟨t, ds, hn, hs, hk1⟩ S1 => by
    obtain ⟨a, xs, e0, h1, h2⟩ := seqr (K := X.K) (S1.top rfl) hn hs
    have e0 : v = .ref a := e0
    subst e0
    refine ⟨a, rfl, ?_⟩
    cases t with
    | false => exact .inl ⟨⟨xs, same_l S1.bh h1⟩, q _ H1 ds g1 B1 al1 hk1 (S1.temps fun p hp => List.mem_cons_of_mem _ hp) (walk_l h1 h2)⟩
    | true => exact .inr ⟨⟨xs, same_t S1.bh h1⟩, q _ H1 ds g1 B1 al1 hk1 (S1.temps fun p hp => List.mem_cons_of_mem _ hp) (walk_t h1 h2)⟩⟩
end
/-! ### dicts with whole numbers as keys -/
abbrev IKs := List (Key × PyData)
def hasK (kvs : IKs) (i : Int) : Bool := kvs.any fun p => decide (p.1 = Sum.inl i)
def putD (kvs : IKs) (i : Int) (x : PyData) : IKs := if hasK kvs i = true then kvs.map (fun p => if p.1 = Sum.inl i then (p.1, x) else p) else kvs ++ [(Sum.inl i, x)]
theorem has_ok {B : Hp} {i : Int} : ∀ {us : List (Key × V)} {kvs : IKs}, Paired (fun (p : Key × V) (q : Key × PyData) => p.1 = q.1 ∧ Dq B p.2 q.2) us kvs → (valV us (Sum.inl i)).isSome = hasK kvs i
  | _, _, .nil => rfl
  | _, _, @Paired.cons _ _ _ p q us kvs h t => by
    have ih := has_ok (i := i) t
    by_cases e : p.1 = Sum.inl i
    · rw [valV_pos e]
      unfold hasK
      rw [List.any_cons, decide_eq_true (h.1 ▸ e), Bool.true_or]
      rfl
    · have e' : ¬ q.1 = Sum.inl i := fun z => e (h.1.trans z)
      have n : valV (p :: us) (Sum.inl i) = valV us (Sum.inl i) := by simp [valV, List.find?_cons, e]
      rw [n, ih]
      unfold hasK
      rw [List.any_cons, decide_eq_false e', Bool.false_or]
theorem any_ok {B : Hp} {i : Int} : ∀ {us : List (Key × V)} {kvs : IKs}, Paired (fun (p : Key × V) (q : Key × PyData) => p.1 = q.1 ∧ Dq B p.2 q.2) us kvs → (us.any fun kv => decide (kv.1 = Sum.inl i)) = hasK kvs i
  | _, _, .nil => rfl
  | _, _, @Paired.cons _ _ _ p q us kvs h t => by
    have ih := any_ok (i := i) t
    unfold hasK at ih ⊢
    rw [List.any_cons, List.any_cons, ih, h.1]
theorem map_ok {B : Hp} {i : Int} {v : V} {x : PyData} (hv : Dq B v x) : ∀ {us : List (Key × V)} {kvs : IKs}, Paired (fun (p : Key × V) (q : Key × PyData) => p.1 = q.1 ∧ Dq B p.2 q.2) us kvs → Paired (fun (p : Key × V) (q : Key × PyData) => p.1 = q.1 ∧ Dq B p.2 q.2) (us.map (fun kv => if kv.1 = Sum.inl i then (kv.1, v) else kv)) (kvs.map (fun p => if p.1 = Sum.inl i then (p.1, x) else p))
  | _, _, .nil => .nil
  | _, _, @Paired.cons _ _ _ p q us kvs h t => by
    refine .cons ?_ (map_ok hv t)
    show (if p.1 = Sum.inl i then (p.1, v) else p).1 = (if q.1 = Sum.inl i then (q.1, x) else q).1 ∧ Dq B (if p.1 = Sum.inl i then (p.1, v) else p).2 (if q.1 = Sum.inl i then (q.1, x) else q).2
    by_cases e : p.1 = Sum.inl i
    · rw [if_pos e, if_pos (h.1 ▸ e)]; exact ⟨h.1, hv⟩
    · rw [if_neg e, if_neg (fun z => e (h.1.trans z))]; exact h
theorem app_ok {α β : Type} {F : α → β → Prop} : ∀ {us us' : List α} {ks ks' : List β}, Paired F us ks → Paired F us' ks' → Paired F (us ++ us') (ks ++ ks')
  | _, _, _, _, .nil, h => h
  | _, _, _, _, .cons a b, h => .cons a (app_ok b h)
theorem put_ok {B : Hp} {i : Int} {v : V} {x : PyData} (hv : Dq B v x) {us : List (Key × V)} {kvs : IKs} (h : Paired (fun (p : Key × V) (q : Key × PyData) => p.1 = q.1 ∧ Dq B p.2 q.2) us kvs) : Paired (fun (p : Key × V) (q : Key × PyData) => p.1 = q.1 ∧ Dq B p.2 q.2) (putK us (Sum.inl i) v) (putD kvs i x) := by
  unfold putK putD
  rw [any_ok h]
  by_cases e : hasK kvs i = true
  · rw [if_pos e, if_pos e]; exact map_ok hv h
  · rw [if_neg e, if_neg e]; exact app_ok h (.cons ⟨rfl, hv⟩ .nil)
section
variable {X : Cx} {a b e o i value : Expr} {es : List Expr} {pos pos' : Pos} {K : PySem.W.Frag}
def dDict0 : DE := fun g k => k (.o g.ce.length) { g with ce := g.ce ++ [.dK []] }
theorem pd_dict0 : PD X (.Dict [] [] pos) dDict0 := pe_imp pe_dnewK fun s H Q ⟨F, g, tm, k, B, al, S, hk, q⟩ => fun p hp => q _ _ _ _ B (al ++ [p]) hk ((S.own hp (ct := .dK []) ⟨[], upd_same, .nil⟩).push ⟨p, S.own_at, rfl⟩)
def oInD : D2 := fun r1 r2 g k => ∃ i j kvs, r1 = .d (.int i) ∧ r2 = .o j ∧ g.ce[j]? = some (.dK kvs) ∧ k (.d (.bool (hasK kvs i))) g
theorem ref_din {da db : DE} : ∀ s H Q, lift K (dOp oInD da db) s H Q → tDIn (lift K da) (lift K db) s H Q := fun s H Q ⟨F, g, tm, k, B, al, S, hk, q⟩ =>
  ⟨F, g, tm, _, B, al, S, hk, fun x H1 r1 g1 B1 al1 hk1 S1 => ⟨F, g1, (x, r1) :: tm, _, B1, al1, S1, hk1, fun y H2 r2 g2 B2 al2 ⟨i, j, kvs, e1, e2, e3, hk2⟩ S2 => by
    subst e1 e2
    have ex := dq_int (S2.tm (x, R.d (.int i)) (by simp))
    have ex : x = .int i := ex
    subst ex
    obtain ⟨p, hp, ey⟩ := S2.tm (y, R.o j) (by simp)
    have ey : y = .ref p := ey
    subst ey
    obtain ⟨us, h1, h2⟩ := S2.ce j p _ hp e3
    refine ⟨p, valV us (Sum.inl i), rfl, .inl ⟨us, Sum.inl i, .inl h1, rfl, rfl⟩, ?_⟩
    rw [has_ok h2]
    exact q _ H2 _ g2 B2 al2 hk2 ((S2.temps (tm' := tm) fun p hp => List.mem_cons_of_mem _ (List.mem_cons_of_mem _ hp)).push (.bl _))⟩⟩
theorem pdt_inD (hu : X.A.units + 1 < cLine) {da db : DE} (ha : PD X a da) (hb : PD X b db) (h1 : behindInMarks .In b = false := by rfl) : PDT X (.Compare a [.In] [b] pos) (dTst (dOp oInD da db)) :=
  pt_imp (pt_cmp (pc_din hu ha hb) h1) fun s H Q hq => by
    obtain ⟨F, g, tm, k, B, al, S, hk, q⟩ := hq
    exact ref_din s H _ ⟨F, g, tm, _, B, al, S, hk, fun v H1 r g1 B1 al1 ⟨c, e, hk1⟩ S1 => by
      subst e
      cases dq_bool (S1.top rfl)
      exact ⟨c, rfl, q c H1 g1 B1 al1 hk1 (S1.temps fun p hp => List.mem_cons_of_mem _ hp)⟩⟩
def sPutD (dd di dv : DE) : DS := fun E g => dv g fun rv g1 => dd g1 fun rd g2 => di g2 fun ri g3 => ∃ x j kvs i, rv = .d x ∧ rd = .o j ∧ ri = .d (.int i) ∧ g3.ce[j]? = some (.dK kvs) ∧ kvs.length < 100000 ∧ E.nx { g3 with ce := g3.ce.set j (.dK (putD kvs i x)) }
theorem pds_putD {dd di dv : DE} (hu : X.A.units + 1 < cLine) (ho : PD X o dd) (hi : PD X i di) (hv : PD X value dv) (hs : swapsWith value (some (.Subscript o i pos')) pos.line X.env = pure false := by rfl) :
    PDS X (.Assign [.Subscript o i pos'] value pos) (sPutD dd di dv) := ps_imp (ps_dput hu ho hi hv hs) fun D s H ⟨F, g, tm, E, B, al, S, h, ok⟩ =>
  ⟨F, g, tm, _, B, al, S, h, fun v H1 rv g1 B1 al1 hk1 S1 => ⟨F, g1, (v, rv) :: tm, _, B1, al1, S1, hk1, fun x H2 rd g2 B2 al2 hk2 S2 => ⟨F, g2, (x, rd) :: (v, rv) :: tm, _, B2, al2, S2, hk2, fun y H3 ri g3 B3 al3 ⟨xd, j, kvs, i, e1, e2, e3, e4, e5, hk3⟩ S3 => by
    subst e1 e2 e3
    obtain ⟨p, hp, ex⟩ := S3.tm (x, R.o j) (by simp)
    have ex : x = .ref p := ex
    subst ex
    have ey := dq_int (S3.top rfl)
    have ey : y = .int i := ey
    subst ey
    have hv2 : Dq B3 v xd := S3.tm (v, R.d xd) (by simp)
    obtain ⟨us, h1, h2⟩ := S3.ce j p _ hp e4
    refine ⟨p, _, rfl, .inl ⟨us, Sum.inl i, h1, rfl, ?_, rfl⟩, ok.nx s _ _ B3 al3 hk3 ((S3.temps fun z hz => List.mem_cons_of_mem _ (List.mem_cons_of_mem _ (List.mem_cons_of_mem _ hz))).put hp e4 (by simp) ⟨_, upd_same, put_ok hv2 h2⟩)⟩
    rw [Paired.length h2]
    exact Nat.lt_of_lt_of_le e5 (by unfold sizeLine; decide)⟩⟩⟩
def cSortedD : DCl := fun rs g k => ∃ (j : Nat) (kvs : IKs) (ks : List Int), rs = [.o j] ∧ g.ce[j]? = some (.dK kvs) ∧ kvs.map (·.1) = ks.map Sum.inl ∧ ks.length < 64 ∧ k (.d (.list ((srt ks).map .int))) g
theorem keys_ok {B : Hp} : ∀ {us : List (Key × V)} {kvs : IKs}, Paired (fun (p : Key × V) (q : Key × PyData) => p.1 = q.1 ∧ Dq B p.2 q.2) us kvs → us.map (·.1) = kvs.map (·.1)
  | _, _, .nil => rfl
  | _, _, .cons h t => by rw [List.map_cons, List.map_cons, h.1, keys_ok t]
theorem pd_sortedD {p : Pos} {da : DA} (hc : X.calm = true) (hg : Gl X "sorted") (hm : X.mg "sorted" = none) (ha : PDA X (e :: es) da) (he : starEach (e :: es) X.env = (false, eval e X.env) :: starEach es X.env := by rfl) (hpl : (backTo pos (starEach es X.env)).any (·.1) = false := by rfl) :
    PD X (.Call (.Name "sorted" p) (e :: es) [] pos) (dCall cSortedD da) := pd_callB (call_sortedDI hc) (by
      rintro F g tm s H B al vs rs k Q S pr ⟨j, kvs, ks, rfl, hc, hk, hl, hk2⟩ q
      obtain ⟨v, rfl, hv⟩ := pair1 pr
      obtain ⟨a, e1, e2⟩ := hv
      subst e2
      obtain ⟨us, h1, h2⟩ := S.ce j a _ e1 hc
      refine ⟨a, us, ks, rfl, .inl h1, (keys_ok h2).trans hk, hl, fun ys p hp hs hn => ?_⟩
      rw [srt_eq hp hs]
      exact new_l S hn (dqall_mkints _) hk2 q) hg hm boot_sorted ha (by decide) (by decide) he hpl
end
/-! ### a def without defaults, out of the head's facts -/
theorem fun_of {K : PySem.W.Frag} {x qual : Str} {st : Stmt} {f : Addr} {fd : FuncData} {kws : List (Str × V)} (F : FunD K x qual (defArgs st) (defBody st) (defScope st) [] kws f fd) : Fun K x qual st f fd := by
  obtain ⟨oc, od, dV, kV, doc, pm, an, cdv, ct, osl, rfl, lk, hcd, hD, hK⟩ := F.ex
  rcases hD with ⟨_, rfl⟩ | ⟨e, _⟩
  · exact ⟨⟨oc, od, kV, doc, pm, an, cdv, ct, osl, rfl, lk, hcd⟩, F.kp⟩
  · exact absurd rfl e
end DL

set_option Elab.async false
set_option linter.all false
set_option maxRecDepth 100000
set_option maxHeartbeats 4000000
set_option autoImplicit false
namespace DL
open PySem PySem.Spec PyProof.Rows L2
section
variable {X : Cx} {e : Expr} {es : List Expr} {p pos : Pos} {da : DA}
theorem pd_len (hc : X.calm = true) (hg : Gl X "len") (hm : X.mg "len" = none) (ha : PDA X (e :: es) da) (he : starEach (e :: es) X.env = (false, eval e X.env) :: starEach es X.env := by rfl) (hpl : (backTo pos (starEach es X.env)).any (·.1) = false := by rfl) :
    PD X (.Call (.Name "len" p) (e :: es) [] pos) (dCall cLen da) := pd_callB call_len_seq ref_len hg hm PySem.boot_len ha (by decide) (by decide) he hpl
theorem pd_abs (hc : X.calm = true) (hg : Gl X "abs") (hm : X.mg "abs" = none) (ha : PDA X (e :: es) da) (he : starEach (e :: es) X.env = (false, eval e X.env) :: starEach es X.env := by rfl) (hpl : (backTo pos (starEach es X.env)).any (·.1) = false := by rfl) :
    PD X (.Call (.Name "abs" p) (e :: es) [] pos) (dCall cAbs da) := pd_callB call_abs ref_abs hg hm (by decide +kernel) ha (by decide) (by decide) he hpl
theorem pd_max2 (hc : X.calm = true) (hg : Gl X "max") (hm : X.mg "max" = none) (ha : PDA X (e :: es) da) (he : starEach (e :: es) X.env = (false, eval e X.env) :: starEach es X.env := by rfl) (hpl : (backTo pos (starEach es X.env)).any (·.1) = false := by rfl) :
    PD X (.Call (.Name "max" p) (e :: es) [] pos) (dCall cMax2 da) := pd_callB (call_max2 hc) ref_max2 hg hm (by decide +kernel) ha (by decide) (by decide) he hpl
theorem pd_min2 (hc : X.calm = true) (hg : Gl X "min") (hm : X.mg "min" = none) (ha : PDA X (e :: es) da) (he : starEach (e :: es) X.env = (false, eval e X.env) :: starEach es X.env := by rfl) (hpl : (backTo pos (starEach es X.env)).any (·.1) = false := by rfl) :
    PD X (.Call (.Name "min" p) (e :: es) [] pos) (dCall cMin2 da) := pd_callB (call_min2 hc) ref_min2 hg hm (by decide +kernel) ha (by decide) (by decide) he hpl
theorem pd_int1 (hc : X.calm = true) (hg : Gl X "int") (hm : X.mg "int" = none) (ha : PDA X (e :: es) da) (he : starEach (e :: es) X.env = (false, eval e X.env) :: starEach es X.env := by rfl) (hpl : (backTo pos (starEach es X.env)).any (·.1) = false := by rfl) :
    PD X (.Call (.Name "int" p) (e :: es) [] pos) (dCall cIntB da) := pd_callTy call_int1 ref_intB hg hm (by decide +kernel) ha (by decide) (by decide) he hpl
theorem pd_list1 (hc : X.calm = true) (hg : Gl X "list") (hm : X.mg "list" = none) (ha : PDA X (e :: es) da) (he : starEach (e :: es) X.env = (false, eval e X.env) :: starEach es X.env := by rfl) (hpl : (backTo pos (starEach es X.env)).any (·.1) = false := by rfl) :
    PD X (.Call (.Name "list" p) (e :: es) [] pos) (dCall cList da) := pd_callTy call_list_of ref_list hg hm (by decide +kernel) ha (by decide) (by decide) he hpl
theorem pd_list1O (hc : X.calm = true) (hg : Gl X "list") (hm : X.mg "list" = none) (ha : PDA X (e :: es) da) (he : starEach (e :: es) X.env = (false, eval e X.env) :: starEach es X.env := by rfl) (hpl : (backTo pos (starEach es X.env)).any (·.1) = false := by rfl) :
    PD X (.Call (.Name "list" p) (e :: es) [] pos) (dCall cListO da) := pd_callTy call_list_of ref_listO hg hm (by decide +kernel) ha (by decide) (by decide) he hpl
theorem pd_tuple1 (hc : X.calm = true) (hg : Gl X "tuple") (hm : X.mg "tuple" = none) (ha : PDA X (e :: es) da) (he : starEach (e :: es) X.env = (false, eval e X.env) :: starEach es X.env := by rfl) (hpl : (backTo pos (starEach es X.env)).any (·.1) = false := by rfl) :
    PD X (.Call (.Name "tuple" p) (e :: es) [] pos) (dCall cTuple da) := pd_callTy call_tuple_of ref_tuple hg hm (by decide +kernel) ha (by decide) (by decide) he hpl
theorem pd_all1 (hc : X.calm = true) (hg : Gl X "all") (hm : X.mg "all" = none) (ha : PDA X (e :: es) da) (he : starEach (e :: es) X.env = (false, eval e X.env) :: starEach es X.env := by rfl) (hpl : (backTo pos (starEach es X.env)).any (·.1) = false := by rfl) :
    PD X (.Call (.Name "all" p) (e :: es) [] pos) (dCall cAll da) := pd_callB (cr_all hc) ref_all hg hm (by decide +kernel) ha (by decide) (by decide) he hpl
theorem pd_any1 (hc : X.calm = true) (hg : Gl X "any") (hm : X.mg "any" = none) (ha : PDA X (e :: es) da) (he : starEach (e :: es) X.env = (false, eval e X.env) :: starEach es X.env := by rfl) (hpl : (backTo pos (starEach es X.env)).any (·.1) = false := by rfl) :
    PD X (.Call (.Name "any" p) (e :: es) [] pos) (dCall cAny da) := pd_callB (cr_any hc) ref_any hg hm (by decide +kernel) ha (by decide) (by decide) he hpl
theorem pd_sum1 (hc : X.calm = true) (hg : Gl X "sum") (hm : X.mg "sum" = none) (ha : PDA X (e :: es) da) (he : starEach (e :: es) X.env = (false, eval e X.env) :: starEach es X.env := by rfl) (hpl : (backTo pos (starEach es X.env)).any (·.1) = false := by rfl) :
    PD X (.Call (.Name "sum" p) (e :: es) [] pos) (dCall cSum da) := pd_callB (cr_sum hc) ref_sum hg hm (by decide +kernel) ha (by decide) (by decide) he hpl
end
end DL

set_option Elab.async false
set_option linter.all false
set_option maxRecDepth 100000
set_option maxHeartbeats 4000000
set_option autoImplicit false
namespace DL
open PySem PySem.Spec PyProof.Rows L2
/-! ### data of whole numbers and pairs -/
abbrev zD (ns : List Int) : List PyData := ns.map PyData.int
def pD (p : Int × Int) : PyData := .tuple [.int p.1, .int p.2]
abbrev psD (ps : List (Int × Int)) : List PyData := ps.map pD
def Sq (x : PyData) (ds : List PyData) : Prop := x = .list ds ∨ x = .tuple ds
theorem Sq.seq {x : PyData} {ds : List PyData} (h : Sq x ds) (g : G) : ∃ t, seqOf g (.d x) = some (t, ds) := by
  rcases h with rfl | rfl
  · exact ⟨false, rfl⟩
  · exact ⟨true, rfl⟩
theorem sqL {ds : List PyData} : Sq (.list ds) ds := .inl rfl
theorem sqT {ds : List PyData} : Sq (.tuple ds) ds := .inr rfl
/-- no bool, no text, no dict; depth below n -/
def plain : Nat → PyData → Bool
  | _, .none => true
  | _, .int _ => true
  | n + 1, .list ds => ds.all (plain n)
  | n + 1, .tuple ds => ds.all (plain n)
  | _, _ => false
theorem plain_lay : ∀ (n : Nat) (d : PyData), plain n d = true → d.canLay0 = true ∧ d.depth ≤ n + 1
  | _, .none, _ => ⟨rfl, by simp [PyData.depth]⟩
  | _, .int _, _ => ⟨rfl, by simp [PyData.depth]⟩
  | n + 1, .list ds, h => by
    have h : ds.all (plain n) = true := h
    have all : PyData.canLayAll0 ds = true ∧ PyData.depthAll ds ≤ n + 1 := by
      induction ds with
      | nil => exact ⟨rfl, by simp [PyData.depthAll]⟩
      | cons x xs ih =>
        rw [List.all_cons, Bool.and_eq_true] at h
        obtain ⟨a, b⟩ := ih h.2 h.2
        obtain ⟨c, d⟩ := plain_lay n x h.1
        exact ⟨by rw [PyData.canLayAll0, c, a]; rfl, by simp only [PyData.depthAll]; omega⟩
    exact ⟨all.1, by simp only [PyData.depth]; omega⟩
  | n + 1, .tuple ds, h => by
    have h : ds.all (plain n) = true := h
    have all : PyData.canLayAll0 ds = true ∧ PyData.depthAll ds ≤ n + 1 := by
      induction ds with
      | nil => exact ⟨rfl, by simp [PyData.depthAll]⟩
      | cons x xs ih =>
        rw [List.all_cons, Bool.and_eq_true] at h
        obtain ⟨a, b⟩ := ih h.2 h.2
        obtain ⟨c, d⟩ := plain_lay n x h.1
        exact ⟨by rw [PyData.canLayAll0, c, a]; rfl, by simp only [PyData.depthAll]; omega⟩
    exact ⟨all.1, by simp only [PyData.depth]; omega⟩
  | 0, .list _, h => by cases h
  | 0, .tuple _, h => by cases h
  | 0, .bool _, h => by cases h
  | _ + 1, .bool _, h => by cases h
  | 0, .str _, h => by cases h
  | _ + 1, .str _, h => by cases h
  | 0, .dict _, h => by cases h
  | _ + 1, .dict _, h => by cases h
theorem plain_shaped {n : Nat} {d : PyData} (h : plain n d = true) (hn : n < 60) : SeqAt.shaped d = true := by
  obtain ⟨a, b⟩ := plain_lay n d h
  unfold SeqAt.shaped
  rw [a, decide_eq_true (show d.depth ≤ 64 by omega)]
  rfl
mutual
theorem eqv_refl : ∀ (d : PyData), d.canLay0 = true → PyData.eqv d d = true
  | .none, _ => by simp [PyData.eqv]
  | .bool b, _ => by simp [PyData.eqv]
  | .int i, _ => by simp [PyData.eqv]
  | .str s, _ => by simp [PyData.eqv]
  | .list ds, h => by rw [PyData.eqv]; exact eqvAll_refl ds h
  | .tuple ds, h => by rw [PyData.eqv]; exact eqvAll_refl ds h
  | .dict _, h => by cases h
theorem eqvAll_refl : ∀ (ds : List PyData), PyData.canLayAll0 ds = true → PyData.eqvAll ds ds = true
  | [], _ => by simp [PyData.eqvAll]
  | d :: ds, h => by
    rw [PyData.canLayAll0, Bool.and_eq_true] at h
    rw [PyData.eqvAll, eqv_refl d h.1, eqvAll_refl ds h.2]
    rfl
end
theorem eqv_iff : ∀ (n : Nat) (x y : PyData), plain n x = true → plain n y = true → PyData.eqv x y = true → x = y
  | _, .none, y, _, hy, h => by cases y <;> simp_all [PyData.eqv]
  | n, .int i, y, _, hy, h => by
    cases y with
    | int j => simp [PyData.eqv] at h; rw [h]
    | bool b => cases n <;> simp [plain] at hy
    | _ => simp [PyData.eqv] at h
  | n + 1, .list ds, y, hx, hy, h => by
    cases y with
    | list es =>
      have gen : ∀ (ds es : List PyData), ds.all (plain n) = true → es.all (plain n) = true → PyData.eqvAll ds es = true → ds = es := by
        intro ds
        induction ds with
        | nil => intro es _ _ h; cases es with
          | nil => rfl
          | cons _ _ => simp [PyData.eqvAll] at h
        | cons d ds ih => intro es h1 h2 h; cases es with
          | nil => simp [PyData.eqvAll] at h
          | cons e es =>
            rw [List.all_cons, Bool.and_eq_true] at h1 h2
            rw [PyData.eqvAll, Bool.and_eq_true] at h
            rw [eqv_iff n d e h1.1 h2.1 h.1, ih es h1.2 h2.2 h.2]
      rw [PyData.eqv] at h
      rw [gen ds es hx hy h]
    | _ => simp [PyData.eqv] at h
  | n + 1, .tuple ds, y, hx, hy, h => by
    cases y with
    | tuple es =>
      have gen : ∀ (ds es : List PyData), ds.all (plain n) = true → es.all (plain n) = true → PyData.eqvAll ds es = true → ds = es := by
        intro ds
        induction ds with
        | nil => intro es _ _ h; cases es with
          | nil => rfl
          | cons _ _ => simp [PyData.eqvAll] at h
        | cons d ds ih => intro es h1 h2 h; cases es with
          | nil => simp [PyData.eqvAll] at h
          | cons e es =>
            rw [List.all_cons, Bool.and_eq_true] at h1 h2
            rw [PyData.eqvAll, Bool.and_eq_true] at h
            rw [eqv_iff n d e h1.1 h2.1 h.1, ih es h1.2 h2.2 h.2]
      rw [PyData.eqv] at h
      rw [gen ds es hx hy h]
    | _ => simp [PyData.eqv] at h
  | 0, .list _, _, h, _, _ => by cases h
  | 0, .tuple _, _, h, _, _ => by cases h
  | 0, .bool _, _, h, _, _ => by cases h
  | _ + 1, .bool _, _, h, _, _ => by cases h
  | 0, .str _, _, h, _, _ => by cases h
  | _ + 1, .str _, _, h, _, _ => by cases h
  | 0, .dict _, _, h, _, _ => by cases h
  | _ + 1, .dict _, _, h, _, _ => by cases h
theorem eqv_same {n : Nat} {x y : PyData} (hx : plain n x = true) (hy : plain n y = true) : (PyData.eqv x y = true) ↔ x = y := ⟨eqv_iff n x y hx hy, fun e => by
  subst e
  exact eqv_refl x (plain_lay n x hx).1⟩
/-- == of plain data -/
theorem oEq_of {n : Nat} {r1 r2 : R} {x y : PyData} {g : G} {k : R → G → Prop} (h1 : datOf g r1 = some x) (h2 : datOf g r2 = some y) (hx : plain n x = true) (hy : plain n y = true) (hn : n < 60) (b : Bool) (hb : b = true ↔ x = y) (hk : k (.d (.bool b)) g) : oEq r1 r2 g k := by
  refine ⟨x, y, h1, h2, plain_shaped hx hn, plain_shaped hy hn, ?_⟩
  have e : PyData.eqv x y = b := Bool.eq_iff_iff.mpr ((eqv_same hx hy).trans hb.symm)
  rw [e]; exact hk
theorem oNe_of {n : Nat} {r1 r2 : R} {x y : PyData} {g : G} {k : R → G → Prop} (h1 : datOf g r1 = some x) (h2 : datOf g r2 = some y) (hx : plain n x = true) (hy : plain n y = true) (hn : n < 60) (b : Bool) (hb : b = true ↔ x ≠ y) (hk : k (.d (.bool b)) g) : oNe r1 r2 g k := by
  refine ⟨x, y, h1, h2, plain_shaped hx hn, plain_shaped hy hn, ?_⟩
  have e : (!PyData.eqv x y) = b := by
    rw [Bool.eq_iff_iff, hb, Bool.not_eq_true']
    constructor
    · intro h e
      rw [(eqv_same hx hy).mpr e] at h
      cases h
    · intro h
      cases q : PyData.eqv x y with
      | false => rfl
      | true => exact absurd ((eqv_same hx hy).mp q) h
  rw [e]; exact hk
theorem plain_ints (ns : List Int) (n : Nat) : (zD ns).all (plain n) = true := by
  rw [List.all_eq_true]
  intro x hx
  obtain ⟨i, _, rfl⟩ := List.mem_map.mp hx
  cases n <;> rfl
theorem plain_pairs (ps : List (Int × Int)) (n : Nat) : (psD ps).all (plain (n + 1)) = true := by
  rw [List.all_eq_true]
  intro x hx
  obtain ⟨i, _, rfl⟩ := List.mem_map.mp hx
  show [PyData.int i.1, PyData.int i.2].all (plain n) = true
  exact plain_ints [i.1, i.2] n
theorem zD_inj {a b : List Int} (h : zD a = zD b) : a = b := by
  induction a generalizing b with
  | nil => cases b with
    | nil => rfl
    | cons _ _ => cases h
  | cons x a ih => cases b with
    | nil => cases h
    | cons y b =>
      have h' : PyData.int x :: zD a = PyData.int y :: zD b := h
      injection h' with h1 h2
      injection h1 with h1
      rw [h1, ih h2]
theorem pD_inj {a b : Int × Int} (h : pD a = pD b) : a = b := by
  obtain ⟨a1, a2⟩ := a
  obtain ⟨b1, b2⟩ := b
  unfold pD at h
  injection h with h
  injection h with h1 h2
  injection h1 with h1
  injection h2 with h2 _
  injection h2 with h2
  simp only at h1 h2
  rw [h1, h2]
theorem psD_inj {a b : List (Int × Int)} (h : psD a = psD b) : a = b := by
  induction a generalizing b with
  | nil => cases b with
    | nil => rfl
    | cons _ _ => cases h
  | cons x a ih => cases b with
    | nil => cases h
    | cons y b =>
      have h' : pD x :: psD a = pD y :: psD b := h
      injection h' with h1 h2
      rw [pD_inj h1, ih h2]
/-! ### list comprehensions that change no cell -/
theorem ite_mono {c : Prop} [Decidable c] {A B A' B' : Prop} (h : if c then A else B) (f : c → A → A') (g : ¬c → B → B') : if c then A' else B' := by
  by_cases q : c
  · rw [if_pos q] at h ⊢; exact f q h
  · rw [if_neg q] at h ⊢; exact g q h
theorem lc_inv {α : Type} {emb : α → PyData} {xs : List α} {dg : DG} {dt : DT} {de : DE} {ws : List Nat} {g1 : G} {k : List PyData → List Ct → Prop} (I : Nat → List PyData → List Ct → Prop) (h0 : I 0 [] g1.ce) (hlen : ∀ i acc ce, I i acc ce → i < xs.length → acc.length < 100000)
    (hs : ∀ i x acc ce, xs[i]? = some x → I i acc ce → dg (.d (emb x)) ⟨wipeG g1.sl ws, ce⟩ fun g2 => dt g2 fun b g3 => if b = true then de g3 fun y g4 => ∃ d, y = .d d ∧ I (i + 1) (acc ++ [d]) g4.ce else I (i + 1) acc g3.ce)
    (he : ∀ acc ce, I xs.length acc ce → k acc ce) : ∃ I : Nat → List PyData → List Ct → Prop, I 0 [] g1.ce ∧ ∀ i acc ce, I i acc ce →
      (i = (xs.map emb).length → k acc ce) ∧ ∀ x, (xs.map emb)[i]? = some x → acc.length < 100000 ∧ dg (.d x) ⟨wipeG g1.sl ws, ce⟩ fun g2 => dt g2 fun b g3 => if b = true then de g3 fun y g4 => ∃ d, y = .d d ∧ I (i + 1) (acc ++ [d]) g4.ce else I (i + 1) acc g3.ce := by
  refine ⟨I, h0, fun i acc ce hI => ⟨fun e => ?_, fun x hx => ?_⟩⟩
  · rw [List.length_map] at e
    subst e
    exact he acc ce hI
  · rw [List.getElem?_map] at hx
    cases hg : xs[i]? with
    | none => rw [hg] at hx; cases hx
    | some z =>
      rw [hg] at hx
      cases hx
      exact ⟨hlen i acc ce hI (List.getElem?_eq_some_iff.mp hg).1, hs i z acc ce hg hI⟩
theorem lc_pure {α : Type} {emb : α → PyData} {xs : List α} {dg : DG} {dt : DT} {de : DE} {ws : List Nat} {g1 : G} {k : List PyData → List Ct → Prop} (p : α → Bool) (f : α → PyData) (hl : xs.length ≤ 100000)
    (hs : ∀ x ∈ xs, ∀ (I1 : PyData → List Ct → Prop) (I0 : List Ct → Prop), (if p x = true then I1 (f x) g1.ce else I0 g1.ce) → dg (.d (emb x)) ⟨wipeG g1.sl ws, g1.ce⟩ fun g2 => dt g2 fun b g3 => if b = true then de g3 fun y g4 => ∃ d, y = .d d ∧ I1 d g4.ce else I0 g3.ce)
    (hk : k ((xs.filter p).map f) g1.ce) : ∃ I : Nat → List PyData → List Ct → Prop, I 0 [] g1.ce ∧ ∀ i acc ce, I i acc ce →
      (i = (xs.map emb).length → k acc ce) ∧ ∀ x, (xs.map emb)[i]? = some x → acc.length < 100000 ∧ dg (.d x) ⟨wipeG g1.sl ws, ce⟩ fun g2 => dt g2 fun b g3 => if b = true then de g3 fun y g4 => ∃ d, y = .d d ∧ I (i + 1) (acc ++ [d]) g4.ce else I (i + 1) acc g3.ce := by
  refine lc_inv (fun i acc ce => acc = ((xs.take i).filter p).map f ∧ ce = g1.ce) ⟨rfl, rfl⟩ (fun i acc ce hI hi => ?_) (fun i x acc ce hx hI => ?_) (fun acc ce hI => ?_)
  · rw [hI.1, List.length_map]
    have h1 := List.length_filter_le p (xs.take i)
    rw [List.length_take] at h1
    omega
  · obtain ⟨rfl, rfl⟩ := hI
    refine hs x (List.mem_of_getElem? hx) (fun d ce => _ ++ [d] = _ ∧ ce = g1.ce) (fun ce => _ = _ ∧ ce = g1.ce) ?_
    have et : xs.take (i + 1) = xs.take i ++ [x] := by rw [List.take_add_one, hx]; rfl
    rw [et, List.filter_append, List.map_append]
    by_cases q : p x = true
    · rw [if_pos q, List.filter_cons, if_pos q]
      exact ⟨rfl, rfl⟩
    · rw [if_neg q, List.filter_cons, if_neg q]
      refine ⟨?_, rfl⟩
      show _ = _ ++ []
      rw [List.append_nil]
  · obtain ⟨rfl, rfl⟩ := hI
    rw [List.take_length]
    exact hk
/-- .. without a test -/
theorem lc_map {α : Type} {emb : α → PyData} {xs : List α} {dg : DG} {dt : DT} {de : DE} {ws : List Nat} {g1 : G} {k : List PyData → List Ct → Prop} (f : α → PyData) (hl : xs.length ≤ 100000)
    (hs : ∀ x ∈ xs, ∀ (I1 : PyData → List Ct → Prop) (I0 : List Ct → Prop), I1 (f x) g1.ce → dg (.d (emb x)) ⟨wipeG g1.sl ws, g1.ce⟩ fun g2 => dt g2 fun b g3 => if b = true then de g3 fun y g4 => ∃ d, y = .d d ∧ I1 d g4.ce else I0 g3.ce)
    (hk : k (xs.map f) g1.ce) : ∃ I : Nat → List PyData → List Ct → Prop, I 0 [] g1.ce ∧ ∀ i acc ce, I i acc ce →
      (i = (xs.map emb).length → k acc ce) ∧ ∀ x, (xs.map emb)[i]? = some x → acc.length < 100000 ∧ dg (.d x) ⟨wipeG g1.sl ws, ce⟩ fun g2 => dt g2 fun b g3 => if b = true then de g3 fun y g4 => ∃ d, y = .d d ∧ I (i + 1) (acc ++ [d]) g4.ce else I (i + 1) acc g3.ce := by
  refine lc_pure (fun _ => true) f hl (fun x hx I1 I0 h => ?_) ?_
  · rw [if_pos rfl] at h
    exact hs x hx I1 I0 h
  · rw [List.filter_eq_self.mpr (fun _ _ => rfl)]; exact hk
/-- a for loop -/
theorem for_inv {α : Type} {emb : α → PyData} {xs : List α} {dg : DG} {u : DS} {E : DEnds} {g1 : G} (I : Nat → G → Prop) (h0 : I 0 g1)
    (hs : ∀ i x g, xs[i]? = some x → I i g → dg (.d (emb x)) g fun g2 => u { E with nx := I (i + 1), ct := I (i + 1), bk := E.nx } g2) (he : ∀ g, I xs.length g → E.nx g) :
    ∃ I : Nat → G → Prop, I 0 g1 ∧ ∀ i g, I i g → (i = (xs.map emb).length → E.nx g) ∧ ∀ x, (xs.map emb)[i]? = some x → dg (.d x) g fun g2 => u { E with nx := I (i + 1), ct := I (i + 1), bk := E.nx } g2 := by
  refine ⟨I, h0, fun i g hI => ⟨fun e => ?_, fun x hx => ?_⟩⟩
  · rw [List.length_map] at e
    subst e
    exact he g hI
  · rw [List.getElem?_map] at hx
    cases hg : xs[i]? with
    | none => rw [hg] at hx; cases hx
    | some z =>
      rw [hg] at hx
      cases hx
      exact hs i z g hg hI
theorem atI_get {α : Type} {xs : List α} {i : Nat} {x : α} (h : xs[i]? = some x) : atI xs (i : Int) = some x := by
  have hl := (List.getElem?_eq_some_iff.mp h).1
  unfold atI ixN
  rw [if_pos (by omega), if_pos (by omega)]
  simp [h]
end DL

set_option Elab.async false
set_option linter.all false
set_option maxRecDepth 100000
set_option maxHeartbeats 4000000
set_option autoImplicit false
namespace DL
open PySem PySem.Spec PyProof.Rows L2
section
variable {X : Cx} {o e : Expr} {es : List Expr} {pos : Pos} {K : PySem.W.Frag}
/-- own.extend(a list) -/
def mExtend : DM := fun r rs g k => ∃ j ds r1 es, r = .o j ∧ rs = [r1] ∧ isMade r1 = true ∧ g.ce[j]? = some (.lst ds) ∧ seqOf g r1 = some (false, es) ∧ ds.length + es.length ≤ 100000 ∧ k (.d .none) { g with ce := g.ce.set j (.lst (ds ++ es)) }
theorem ref_extend : RefM K rExtend mExtend := by
  rintro F g tm s H B al x vs r0 rs k Q S hx pr ⟨j, ds, r1, es, rfl, rfl, hm, hc, hs, hz, hk⟩ q
  obtain ⟨p, hp, rfl⟩ := hx
  obtain ⟨v, rfl, hv⟩ := pair1 pr
  obtain ⟨xs, h1, h2⟩ := S.ce j p _ hp hc
  obtain ⟨b, zs, rfl, h3, h4⟩ := S.seqM hv hs hm
  refine ⟨p, b, xs, zs, rfl, rfl, h1, h3, ?_, q _ _ _ _ B al hk (S.put hp hc (by simp) ⟨_, upd_same, dqall_app h2 h4⟩) Dq.non⟩
  rw [dqall_len h2, dqall_len h4]
  exact Nat.le_trans hz (by unfold sizeLine; decide)
theorem pd_extend {apos cpos : Pos} {dd : DE} {da : DA} (ho : PD X o dd) (ha : PDA X (e :: es) da)
    (hbase : attributeBase o "extend" X.env (eval o X.env) = eval o X.env := by rfl)
    (hfew : ((backTo cpos (starEach (e :: es) X.env)).all (fun x => !x.1) && (backToKw cpos (keywordEach [] X.env)).all (fun x => x.1.isSome) && decide ((e :: es).length + ([] : List Keyword).length + (if ([] : List Keyword).isEmpty then 0 else 1) < 30)) = true := by rfl)
    (hline : (apos.endLine == cpos.line) = true := by rfl) (hs : starEach (e :: es) X.env = (false, eval e X.env) :: starEach es X.env := by rfl) (hplain : (backTo cpos (starEach es X.env)).any (·.1) = false := by rfl) :
    PD X (.Call (.Attribute o "extend" apos) (e :: es) [] cpos) (dMeth mExtend dd da) :=
  pd_meth PySem.F.slot_list_extend PySem.F.type_list_extend mt_extend ref_extend ho ha hbase hfew hline hs hplain
/-- x *= e -/
def ipMul : TIp := fun x y H Q => ∃ i j, x = .int i ∧ y = .int j ∧ CMul i j ∧ Q (.int (i * j)) H
theorem ip_mul : PIp X .Mult ipMul := by
  intro pins s σ H x y v u Q I r1 r2 h
  obtain ⟨i, j, e1, e2, hc, q⟩ := h
  subst e1; subst e2
  obtain ⟨t, rfl⟩ := r1
  obtain ⟨t', rfl⟩ := r2
  exact PyProof.Rows.imul_int ⟨.int _, H, I.tok _, ⟨_, rfl⟩, q⟩ hc.ok
def sAugM (i : Nat) (de : DE) : DS := fun E g => ∃ n, g.sl[i]? = some (some (.d (.int n))) ∧ de g fun r g1 => ∃ m, r = .d (.int m) ∧ CMul n m ∧ E.nx { g1 with sl := g1.sl.set i (some (.d (.int (n * m)))) }
theorem pds_augMul {i : Nat} {x : Str} {de : DE} {pos' : Pos} (hN : X.N.Nodup) (hi : X.N[i]? = some x) (hx : Loc X.env.scope x) (he : PD X e de) (hf : X.fn x = true ∨ X.env.scope.names.lookup x = some .local := by first | exact .inl rfl | exact .inr rfl | assumption) :
    PDS X (.AugAssign (.Name x pos') .Mult e pos) (sAugM i de) := ps_imp (ps_aug hN hi hx he ip_mul hf) fun D s H ⟨F, g, tm, E, B, al, S, ⟨n, hn, h⟩, ok⟩ => by
  obtain ⟨v, h1, h2⟩ := S.sl i _ hn
  cases dq_int h2
  refine ⟨_, h1, F, g, tm, _, B, al, S, h, fun v H1 r g1 B1 al1 ⟨m, er, hc, hk⟩ S1 => ?_⟩
  subst er
  cases dq_int (S1.top rfl)
  exact ⟨n, m, rfl, rfl, hc, ok.nx _ H1 _ B1 al1 hk ((S1.temps (tm' := tm) fun p hp => List.mem_cons_of_mem _ hp).store (Dq.int _))⟩
end
end DL

set_option Elab.async false
set_option linter.all false
set_option maxRecDepth 100000
set_option autoImplicit false
namespace DL
/-! ### codes and runs, plain -/
def restR (ns : List Int) (h : Int) : List Int := ns.filter (fun n => decide (h ≤ n))
def codeN (ns : List Int) (h : Int) : Nat := (restR ns h).idxOf h
def codeI (ns : List Int) (h : Int) : Int := (codeN ns h : Nat)
def codesM (ns : List Int) : List Int := (srt ns).map (codeI ns)
def insP (acc : List Int) (p : Int × Int) : List Int := acc.take p.2.toNat ++ [p.1] ++ acc.drop p.2.toNat
def rowS (hs cs : List Int) : List Int := ((hs.zip cs).reverse).foldl insP []
def rowW (ns cs : List Int) : List Int := rowS (srt ns) cs
def inRn (i : Int) (p : Int × Int) : Bool := if decide (p.1 ≤ i) = true then decide (i ≤ p.2) else false
def runA (ps : List (Int × Int)) (i : Int) : Int × Int := ((ps.filter (inRn i)).head?).getD (0, 0)
def fstR (ps : List (Int × Int)) (pl : Nat) : Int := (ps.getD (pl - 1) (0, 0)).1
def lstR (ps : List (Int × Int)) (pl : Nat) : Int := (ps.getD (min (ps.length - 1) (pl + 1)) (0, 0)).2 - 1
def shiftR (p : Int × Int) : Int × Int := (p.1 - 1, p.2 - 1)
def nextP (ps : List (Int × Int)) (pl : Nat) : List (Int × Int) :=
  ps.take (pl - 1) ++ (if fstR ps pl ≤ lstR ps pl then [(fstR ps pl, lstR ps pl)] else []) ++ (ps.drop (pl + 2)).map shiftR
def nextR (ps : List (Int × Int)) (i : Int) : List (Int × Int) := nextP ps (ps.idxOf (runA ps i))
def goL : List (Int × Int) → List Int → List (List (Int × Int))
  | _, [] => []
  | here, c :: cs => here :: goL (nextR here c) cs
def goR : List (Int × Int) → List Int → List (Int × Int)
  | _, [] => []
  | here, c :: cs => runA here c :: goR (nextR here c) cs
def iniR (n : Nat) : List (Int × Int) := (List.range n).map fun (i : Nat) => ((i : Int), (i : Int))
def listsM (ns : List Int) : List (List (Int × Int)) := goL (iniR ns.length) (codesM ns)
def runsC (cs : List Int) : List (Int × Int) := goR (iniR cs.length) cs
def runsM (ns : List Int) : List (Int × Int) := runsC (codesM ns)

/-! sorting -/
theorem srt_len (ns : List Int) : (srt ns).length = ns.length := (srt_perm ns).length_eq
theorem srt_mem {ns : List Int} {h : Int} : h ∈ srt ns ↔ h ∈ ns := (srt_perm ns).mem_iff
theorem srt_of {hs : List Int} (h : hs.Pairwise (· < ·)) : srt hs = hs := (srt_eq (List.Perm.refl _) (h.imp Int.le_of_lt)).symm
theorem srt_congr {a b : List Int} (h : a.Perm b) : srt a = srt b := sorted_uniq ((srt_perm a).trans (h.trans (srt_perm b).symm)) (srt_sorted a) (srt_sorted b)
theorem srt_lt {ns : List Int} (h : ns.Nodup) : (srt ns).Pairwise (· < ·) := by
  have h1 := srt_sorted ns
  have h2 : (srt ns).Nodup := (srt_perm ns).nodup_iff.mpr h
  exact (h1.and h2).imp fun ⟨a, b⟩ => by omega
theorem nodup_of_lt {hs : List Int} (h : hs.Pairwise (· < ·)) : hs.Nodup := h.imp fun h => by omega
theorem restR_all {ns : List Int} {h : Int} (H : ∀ n ∈ ns, h ≤ n) : restR ns h = ns := List.filter_eq_self.mpr fun n hn => decide_eq_true (H n hn)
theorem restR_erase {ns : List Int} {h h' : Int} (hlt : h < h') : restR (ns.erase h) h' = restR ns h' := by
  unfold restR
  induction ns with
  | nil => rfl
  | cons a t ih =>
    by_cases e : a = h
    · subst e
      rw [List.erase_cons_head, List.filter_cons, if_neg (by simp; omega)]
    · rw [List.erase_cons_tail (by simpa using e), List.filter_cons, List.filter_cons, ih]
theorem codeI_erase {ns : List Int} {h h' : Int} (hlt : h < h') : codeI (ns.erase h) h' = codeI ns h' := by
  unfold codeI codeN
  rw [restR_erase hlt]
theorem srt_erase {ns : List Int} {h : Int} {t : List Int} (e : srt ns = h :: t) : srt (ns.erase h) = t := by
  have p : (h :: t).Perm ns := e ▸ srt_perm ns
  have p2 : t.Perm (ns.erase h) := by
    have z := p.erase h
    rw [List.erase_cons_head] at z
    exact z
  have s : (h :: t).Pairwise (· ≤ ·) := e ▸ srt_sorted ns
  exact (srt_eq p2 (List.pairwise_cons.mp s).2).symm
theorem codes_cons {ns : List Int} {h : Int} {t : List Int} (hn : ns.Nodup) (e : srt ns = h :: t) : codesM ns = codeI ns h :: codesM (ns.erase h) := by
  have lt : (h :: t).Pairwise (· < ·) := e ▸ srt_lt hn
  unfold codesM
  rw [e, srt_erase e, List.map_cons]
  congr 1
  refine List.map_congr_left fun x hx => ?_
  exact (codeI_erase ((List.pairwise_cons.mp lt).1 x hx)).symm
/-- bounds of codes -/
def BdC : Nat → List Int → Prop
  | 0, [] => True
  | n + 1, c :: cs => 0 ≤ c ∧ c ≤ n ∧ BdC n cs
  | _, _ => False
theorem BdC.len : ∀ {n : Nat} {cs : List Int}, BdC n cs → cs.length = n
  | 0, [], _ => rfl
  | n + 1, c :: cs, h => by rw [List.length_cons, BdC.len h.2.2]
  | 0, _ :: _, h => h.elim
  | _ + 1, [], h => h.elim
theorem codeN_lt {ns : List Int} {h : Int} (hm : h ∈ ns) : codeN ns h < (restR ns h).length := List.idxOf_lt_length_of_mem (List.mem_filter.mpr ⟨hm, decide_eq_true (Int.le_refl h)⟩)
theorem codes_nil : codesM [] = [] := by unfold codesM srt; simp
theorem codes_bd : ∀ (n : Nat) (ns : List Int), ns.length = n → ns.Nodup → BdC n (codesM ns)
  | 0, ns, hl, _ => by
    cases ns with
    | nil => rw [codes_nil]; exact trivial
    | cons _ _ => cases hl
  | n + 1, ns, hl, hn => by
    cases e : srt ns with
    | nil =>
      have z := srt_len ns
      rw [e, hl] at z
      cases z
    | cons h t =>
      have hm : h ∈ ns := srt_mem.mp (e ▸ List.mem_cons_self)
      have ihl : (ns.erase h).length = n := by rw [List.length_erase_of_mem hm, hl]; rfl
      rw [codes_cons hn e]
      refine ⟨Int.natCast_nonneg _, ?_, codes_bd n _ ihl (hn.erase h)⟩
      have z := codeN_lt hm
      have z2 := List.length_filter_le (fun n => decide (h ≤ n)) ns
      unfold codeI
      unfold restR at z
      omega
theorem codes_len (ns : List Int) : (codesM ns).length = ns.length := by unfold codesM; rw [List.length_map, srt_len]
/-! the row with codes -/
theorem rowS_nil {cs : List Int} : rowS [] cs = [] := by unfold rowS; simp
theorem rowS_cons {h c : Int} {hs cs : List Int} : rowS (h :: hs) (c :: cs) = insP (rowS hs cs) (h, c) := by
  unfold rowS
  rw [List.zip_cons_cons, List.reverse_cons, List.foldl_append]
  rfl
theorem insP_perm {acc : List Int} {p : Int × Int} : (insP acc p).Perm (p.1 :: acc) := by
  unfold insP
  have h : (acc.take p.2.toNat ++ [p.1] ++ acc.drop p.2.toNat).Perm ([p.1] ++ (acc.take p.2.toNat ++ acc.drop p.2.toNat)) := by
    rw [← List.append_assoc]
    exact List.Perm.append_right _ (List.perm_append_comm)
  rw [List.take_append_drop] at h
  exact h
theorem rowS_perm : ∀ {hs cs : List Int}, cs.length = hs.length → (rowS hs cs).Perm hs
  | [], _, _ => by rw [rowS_nil]
  | h :: hs, [], e => by cases e
  | h :: hs, c :: cs, e => by
    rw [rowS_cons]
    exact insP_perm.trans (List.Perm.cons h (rowS_perm (Nat.succ.inj e)))
theorem rowW_perm {ns cs : List Int} (h : cs.length = ns.length) : (rowW ns cs).Perm ns := (rowS_perm (by rw [srt_len]; exact h)).trans (srt_perm ns)
theorem codes_row : ∀ {n : Nat} {hs cs : List Int}, hs.length = n → hs.Pairwise (· < ·) → BdC n cs → codesM (rowS hs cs) = cs
  | 0, [], [], _, _, _ => by rw [rowS_nil, codes_nil]
  | 0, [], _ :: _, _, _, h => h.elim
  | 0, _ :: _, _, e, _, _ => by cases e
  | n + 1, [], _, e, _, _ => by cases e
  | n + 1, _ :: _, [], _, _, h => h.elim
  | n + 1, h :: hs, c :: cs, e, hp, hb => by
    obtain ⟨c0, c1, hb⟩ := hb
    have hp' := List.pairwise_cons.mp hp
    have ih := codes_row (Nat.succ.inj e) hp'.2 hb
    have lc : cs.length = hs.length := by rw [hb.len]; exact (Nat.succ.inj e).symm
    have pr := rowS_perm lc
    have prf : (rowS (h :: hs) (c :: cs)).Perm (h :: hs) := rowS_perm (by simp [lc])
    have nd : (rowS (h :: hs) (c :: cs)).Nodup := prf.nodup_iff.mpr (nodup_of_lt hp)
    have es : srt (rowS (h :: hs) (c :: cs)) = h :: hs := (srt_congr prf).trans (srt_of hp)
    rw [codes_cons nd es]
    have notin : h ∉ rowS hs cs := fun q => by
      have z := hp'.1 h (pr.mem_iff.mp q)
      omega
    have lr : (rowS hs cs).length = n := by rw [pr.length_eq]; exact Nat.succ.inj e
    have ct : c.toNat ≤ (rowS hs cs).length := by omega
    have er : (rowS (h :: hs) (c :: cs)).erase h = rowS hs cs := by
      rw [rowS_cons]
      unfold insP
      rw [List.append_assoc, List.erase_append_right _ (fun q => notin (List.mem_of_mem_take q))]
      show _ ++ (h :: (rowS hs cs).drop c.toNat).erase h = _
      rw [List.erase_cons_head]
      exact List.take_append_drop _ _
    rw [er, ih]
    congr 1
    have all : ∀ n ∈ rowS (h :: hs) (c :: cs), h ≤ n := fun n hn => by
      rcases List.mem_cons.mp (prf.mem_iff.mp hn) with z | z
      · omega
      · have := hp'.1 n z; omega
    unfold codeI codeN
    rw [restR_all all, rowS_cons]
    unfold insP
    rw [List.append_assoc, List.idxOf_append, if_neg (fun q => notin (List.mem_of_mem_take q))]
    show ((List.idxOf h (h :: _) + _ : Nat) : Int) = c
    rw [List.idxOf_cons_self, List.length_take, Nat.min_eq_left ct]
    omega
/-! parts of a range -/
def PartF : Int → Int → List (Int × Int) → Prop
  | a, b, [] => a = b
  | a, b, p :: r => p.1 = a ∧ p.1 ≤ p.2 ∧ PartF (p.2 + 1) b r
theorem PartF.le : ∀ {ps : List (Int × Int)} {a b : Int}, PartF a b ps → a ≤ b
  | [], a, b, h => Int.le_of_eq h
  | p :: r, a, b, h => by
    have := PartF.le h.2.2
    have h1 := h.1
    have h2 := h.2.1
    omega
theorem PartF.app : ∀ {ps qs : List (Int × Int)} {a m b : Int}, PartF a m ps → PartF m b qs → PartF a b (ps ++ qs)
  | [], _, a, m, b, h, h' => by rw [show a = m from h]; exact h'
  | p :: r, qs, a, m, b, h, h' => ⟨h.1, h.2.1, PartF.app h.2.2 h'⟩
theorem PartF.split : ∀ {ps qs : List (Int × Int)} {a b : Int}, PartF a b (ps ++ qs) → ∃ m, PartF a m ps ∧ PartF m b qs
  | [], _, a, b, h => ⟨a, rfl, h⟩
  | p :: r, qs, a, b, h => by
    obtain ⟨m, h1, h2⟩ := PartF.split h.2.2
    exact ⟨m, ⟨h.1, h.2.1, h1⟩, h2⟩
theorem PartF.shift : ∀ {ps : List (Int × Int)} {a b : Int}, PartF a b ps → PartF (a - 1) (b - 1) (ps.map shiftR)
  | [], a, b, h => by show a - 1 = b - 1; rw [show a = b from h]
  | p :: r, a, b, h => by
    refine ⟨?_, ?_, ?_⟩
    · show p.1 - 1 = a - 1; rw [h.1]
    · show p.1 - 1 ≤ p.2 - 1; have := h.2.1; omega
    · have z := PartF.shift h.2.2
      show PartF (p.2 - 1 + 1) _ _
      rw [show p.2 - 1 + 1 = p.2 + 1 - 1 by omega]
      exact z
theorem inRn_iff {i : Int} {p : Int × Int} : inRn i p = true ↔ p.1 ≤ i ∧ i ≤ p.2 := by
  unfold inRn
  by_cases h : p.1 ≤ i
  · rw [if_pos (decide_eq_true h)]; simp [h]
  · rw [if_neg (by simpa using h)]; simp [h]
theorem inRn_before {ps : List (Int × Int)} {a b i : Int} (h : PartF a b ps) (hi : b ≤ i) : ∀ p ∈ ps, inRn i p = false := by
  induction ps generalizing a with
  | nil => intro p hp; cases hp
  | cons q r ih =>
    intro p hp
    rcases List.mem_cons.mp hp with e | e
    · subst e
      rw [Bool.eq_false_iff]
      intro z
      have z := (inRn_iff.mp z).2
      have := PartF.le h.2.2
      omega
    · exact ih h.2.2 p e
/-- the part that holds i -/
theorem part_at : ∀ {ps : List (Int × Int)} {a b i : Int}, PartF a b ps → a ≤ i → i < b → ∃ A p B, ps = A ++ p :: B ∧ PartF a p.1 A ∧ p.1 ≤ i ∧ i ≤ p.2 ∧ PartF (p.2 + 1) b B
  | [], a, b, i, h, h1, h2 => by rw [show a = b from h] at h1; omega
  | p :: r, a, b, i, h, h1, h2 => by
    by_cases hi : i ≤ p.2
    · exact ⟨[], p, r, rfl, h.1.symm, by rw [h.1]; exact h1, hi, h.2.2⟩
    · obtain ⟨A, q, B, e, h3, h4, h5, h6⟩ := part_at (i := i) h.2.2 (by omega) h2
      exact ⟨p :: A, q, B, by rw [e]; rfl, ⟨h.1, h.2.1, h3⟩, h4, h5, h6⟩
theorem runA_at {A B : List (Int × Int)} {p : Int × Int} {a i : Int} (hA : PartF a p.1 A) (h1 : p.1 ≤ i) (h2 : i ≤ p.2) : runA (A ++ p :: B) i = p ∧ ((A ++ p :: B).filter (inRn i)).head? = some p := by
  have hf : A.filter (inRn i) = [] := by
    rw [List.filter_eq_nil_iff]
    intro q hq
    rw [inRn_before hA h1 q hq]
    simp
  have hh : ((A ++ p :: B).filter (inRn i)).head? = some p := by
    rw [List.filter_append, hf, List.filter_cons, if_pos (inRn_iff.mpr ⟨h1, h2⟩)]
    rfl
  refine ⟨?_, hh⟩
  unfold runA
  rw [hh]
  rfl
theorem part_fresh {A : List (Int × Int)} {p : Int × Int} {a : Int} (hA : PartF a p.1 A) : p ∉ A := fun q => by
  have h := inRn_before (i := p.1) hA (Int.le_refl _) p q
  induction A generalizing a with
  | nil => cases q
  | cons r t ih =>
    rcases List.mem_cons.mp q with e | e
    · subst e
      have z := PartF.le hA.2.2
      have z2 := hA.2.1
      omega
    · exact ih hA.2.2 e
theorem idx_at {A B : List (Int × Int)} {p : Int × Int} {a i : Int} (hA : PartF a p.1 A) (h1 : p.1 ≤ i) (h2 : i ≤ p.2) : (A ++ p :: B).idxOf (runA (A ++ p :: B) i) = A.length := by
  rw [(runA_at hA h1 h2).1, List.idxOf_append, if_neg (part_fresh hA), List.idxOf_cons_self, Nat.zero_add]
theorem nextP_part {A B : List (Int × Int)} {p : Int × Int} {b : Int} (hA : PartF 0 p.1 A) (hp : p.1 ≤ p.2) (hB : PartF (p.2 + 1) b B) : PartF 0 (b - 1) (nextP (A ++ p :: B) A.length) := by
  -- the left end
  have left : ∃ A', (A ++ p :: B).take (A.length - 1) = A' ∧ PartF 0 (fstR (A ++ p :: B) A.length) A' ∧ fstR (A ++ p :: B) A.length ≤ p.1 ∧ (A ≠ [] → fstR (A ++ p :: B) A.length < p.1) := by
    rcases List.eq_nil_or_concat A with e | ⟨A0, q, e⟩
    · subst e
      refine ⟨[], rfl, ?_, ?_, fun z => absurd rfl z⟩
      · show (0 : Int) = p.1
        exact hA
      · exact Int.le_refl _
    · rw [List.concat_eq_append] at e
      subst e
      obtain ⟨m, h1, h2⟩ := PartF.split hA
      have e1 : (A0 ++ [q] ++ p :: B).take ((A0 ++ [q]).length - 1) = A0 := by
        rw [List.append_assoc, List.length_append]
        exact List.take_left' (by simp)
      have e2 : fstR (A0 ++ [q] ++ p :: B) (A0 ++ [q]).length = q.1 := by
        unfold fstR
        rw [List.append_assoc, List.length_append, show A0.length + [q].length - 1 = A0.length by simp, List.getD_eq_getElem?_getD, List.getElem?_append_right (Nat.le_refl _), Nat.sub_self]
        rfl
      have h3 : q.2 + 1 = p.1 := h2.2.2
      have h4 := h2.2.1
      have h5 := h2.1
      refine ⟨A0, e1, by rw [e2, h5]; exact h1, by rw [e2]; omega, fun _ => by rw [e2]; omega⟩
  have right : PartF (lstR (A ++ p :: B) A.length + 1) (b - 1) (((A ++ p :: B).drop (A.length + 2)).map shiftR) ∧ p.2 - 1 ≤ lstR (A ++ p :: B) A.length ∧ (B ≠ [] → p.2 ≤ lstR (A ++ p :: B) A.length) := by
    cases B with
    | nil =>
      have e1 : (A ++ [p]).drop (A.length + 2) = [] := List.drop_eq_nil_of_le (by simp)
      have e2 : lstR (A ++ [p]) A.length = p.2 - 1 := by
        unfold lstR
        rw [List.length_append, show min (A.length + [p].length - 1) (A.length + 1) = A.length by simp, List.getD_eq_getElem?_getD, List.getElem?_append_right (Nat.le_refl _), Nat.sub_self]
        rfl
      rw [e1, e2]
      have hB : p.2 + 1 = b := hB
      exact ⟨show p.2 - 1 + 1 = b - 1 by omega, Int.le_refl _, fun z => absurd rfl z⟩
    | cons q B =>
      have e1 : (A ++ p :: q :: B).drop (A.length + 2) = B := by
        rw [List.drop_append, List.drop_eq_nil_of_le (by omega), show A.length + 2 - A.length = 2 by omega]
        rfl
      have e2 : lstR (A ++ p :: q :: B) A.length = q.2 - 1 := by
        unfold lstR
        rw [List.length_append, show min (A.length + (p :: q :: B).length - 1) (A.length + 1) = A.length + 1 by simp, List.getD_eq_getElem?_getD, List.getElem?_append_right (by omega), show A.length + 1 - A.length = 1 by omega]
        rfl
      rw [e1, e2]
      have z := hB.2.2.shift
      have h4 := hB.1
      have h5 := hB.2.1
      rw [show q.2 + 1 - 1 = q.2 - 1 + 1 by omega] at z
      exact ⟨z, by omega, fun _ => by omega⟩
  obtain ⟨A', e1, h1, h2, h3⟩ := left
  obtain ⟨h4, h5, h6⟩ := right
  unfold nextP
  rw [e1]
  by_cases hc : fstR (A ++ p :: B) A.length ≤ lstR (A ++ p :: B) A.length
  · rw [if_pos hc]
    exact PartF.app (PartF.app h1 ⟨rfl, hc, rfl⟩) h4
  · rw [if_neg hc, List.append_nil]
    have e : fstR (A ++ p :: B) A.length = lstR (A ++ p :: B) A.length + 1 := by omega
    rw [e] at h1
    exact PartF.app h1 h4
theorem runA_in {ps : List (Int × Int)} {n i : Int} (h : PartF 0 n ps) (h0 : 0 ≤ i) (h1 : i < n) : ∃ A p B, ps = A ++ p :: B ∧ runA ps i = p ∧ (ps.filter (inRn i)).head? = some p ∧ ps.idxOf (runA ps i) = A.length ∧ p.1 ≤ i ∧ i ≤ p.2 ∧ PartF 0 p.1 A ∧ PartF (p.2 + 1) n B := by
  obtain ⟨A, p, B, e, hA, l1, l2, hB⟩ := part_at h h0 h1
  subst e
  exact ⟨A, p, B, rfl, (runA_at hA l1 l2).1, (runA_at hA l1 l2).2, idx_at hA l1 l2, l1, l2, hA, hB⟩
theorem nextR_part {ps : List (Int × Int)} {n i : Int} (h : PartF 0 n ps) (h0 : 0 ≤ i) (h1 : i < n) : PartF 0 (n - 1) (nextR ps i) := by
  obtain ⟨A, p, B, e, _, _, e3, l1, l2, hA, hB⟩ := runA_in h h0 h1
  subst e
  unfold nextR
  rw [e3]
  exact nextP_part hA (by omega) hB
/-- within one part nothing changes -/
theorem run_same {ps : List (Int × Int)} {n i j : Int} (h : PartF 0 n ps) (h0 : 0 ≤ i) (h1 : i < n) (hj : (runA ps i).1 ≤ j) (hj2 : j ≤ (runA ps i).2) : runA ps j = runA ps i ∧ nextR ps j = nextR ps i := by
  obtain ⟨A, p, B, e, e1, _, e3, l1, l2, hA, hB⟩ := runA_in h h0 h1
  subst e
  rw [e1] at hj hj2
  have z := runA_at (B := B) hA hj hj2
  refine ⟨z.1.trans e1.symm, ?_⟩
  unfold nextR
  rw [z.1, e1]
theorem run_bounds {ps : List (Int × Int)} {n i : Int} (h : PartF 0 n ps) (h0 : 0 ≤ i) (h1 : i < n) : 0 ≤ (runA ps i).1 ∧ (runA ps i).1 ≤ i ∧ i ≤ (runA ps i).2 ∧ (runA ps i).2 < n := by
  obtain ⟨A, p, B, e, e1, _, e3, l1, l2, hA, hB⟩ := runA_in h h0 h1
  rw [e1]
  have z1 := hA.le
  have z2 := hB.le
  exact ⟨z1, l1, l2, by omega⟩
theorem iniR_part (n : Nat) : PartF 0 n (iniR n) := by
  have gen : ∀ (m k : Nat), PartF (k : Int) ((k + m : Nat) : Int) ((List.range' k m).map fun (i : Nat) => ((i : Int), (i : Int))) := by
    intro m
    induction m with
    | zero => intro k; rfl
    | succ m ih =>
      intro k
      rw [List.range'_succ, List.map_cons]
      refine ⟨rfl, Int.le_refl _, ?_⟩
      have z := ih (k + 1)
      rw [show k + 1 + m = k + (m + 1) by omega] at z
      exact z
  have z := gen n 0
  unfold iniR
  rw [List.range_eq_range', ← Nat.zero_add n]
  simpa using z
/-- marks within the runs give the same runs -/
def InRs : List (Int × Int) → List Int → Prop
  | [], [] => True
  | p :: ps, c :: cs => p.1 ≤ c ∧ c ≤ p.2 ∧ InRs ps cs
  | _, _ => False
theorem goR_same : ∀ {n : Nat} {here : List (Int × Int)} {cs ms : List Int}, PartF 0 n here → BdC n cs → InRs (goR here cs) ms → goR here ms = goR here cs ∧ BdC n ms
  | 0, _, [], [], _, _, _ => ⟨rfl, trivial⟩
  | 0, _, [], _ :: _, _, _, h => h.elim
  | 0, _, _ :: _, _, _, h, _ => h.elim
  | n + 1, _, [], _, _, h, _ => h.elim
  | n + 1, _, _ :: _, [], _, _, h => h.elim
  | n + 1, here, c :: cs, m :: ms, hp, hb, hi => by
    obtain ⟨c0, c1, hb⟩ := hb
    obtain ⟨i1, i2, hi⟩ := hi
    have hc : c < ((n + 1 : Nat) : Int) := by omega
    obtain ⟨e1, e2⟩ := run_same hp c0 hc i1 i2
    have np := nextR_part hp c0 hc
    rw [show ((n + 1 : Nat) : Int) - 1 = (n : Int) by omega] at np
    obtain ⟨b0, b1, b2, b3⟩ := run_bounds hp c0 hc
    obtain ⟨h1, h2⟩ := goR_same np hb hi
    refine ⟨?_, by omega, by omega, h2⟩
    show runA here m :: goR (nextR here m) ms = runA here c :: goR (nextR here c) cs
    rw [e1, e2, h1]
theorem goR_len : ∀ (here : List (Int × Int)) (cs : List Int), (goR here cs).length = cs.length
  | _, [] => rfl
  | here, c :: cs => by show (goR _ cs).length + 1 = _; rw [goR_len]; rfl
theorem goL_len : ∀ (here : List (Int × Int)) (cs : List Int), (goL here cs).length = cs.length
  | _, [] => rfl
  | here, c :: cs => by show (goL _ cs).length + 1 = _; rw [goL_len]; rfl
theorem inRs_self : ∀ {n : Nat} {here : List (Int × Int)} {cs : List Int}, PartF 0 n here → BdC n cs → InRs (goR here cs) cs
  | 0, _, [], _, _ => trivial
  | 0, _, _ :: _, _, h => h.elim
  | n + 1, _, [], _, h => h.elim
  | n + 1, here, c :: cs, hp, hb => by
    obtain ⟨c0, c1, hb⟩ := hb
    have hc : c < ((n + 1 : Nat) : Int) := by omega
    obtain ⟨b0, b1, b2, b3⟩ := run_bounds hp c0 hc
    have np := nextR_part hp c0 hc
    rw [show ((n + 1 : Nat) : Int) - 1 = (n : Int) by omega] at np
    exact ⟨b1, b2, inRs_self np hb⟩
end DL

set_option Elab.async false
set_option linter.all false
set_option maxRecDepth 100000
set_option autoImplicit false
namespace DL
open PySem PySem.Spec PyProof.Rows L2
theorem index_int {ms : List Int} {h : Int} (hm : h ∈ ms) : (zD ms).findIdx? (fun z => PyData.eqv z (.int h)) = some (ms.idxOf h) := by
  induction ms with
  | nil => cases hm
  | cons a t ih =>
    show (List.findIdx? _ (_ :: _)) = _
    rw [List.findIdx?_cons]
    have e : PyData.eqv (.int a) (.int h) = (a == h) := by simp [PyData.eqv]
    rw [e]
    by_cases q : a = h
    · subst q; simp
    · have q' : (a == h) = false := by simpa using q
      rw [q', List.idxOf_cons, q']
      simp only [Bool.false_eq_true, if_false]
      rcases List.mem_cons.mp hm with z | z
      · exact absurd z.symm q
      · rw [ih z]; rfl
theorem index_pair {ms : List (Int × Int)} {h : Int × Int} (hm : h ∈ ms) : (psD ms).findIdx? (fun z => PyData.eqv z (pD h)) = some (ms.idxOf h) := by
  induction ms with
  | nil => cases hm
  | cons a t ih =>
    show (List.findIdx? _ (_ :: _)) = _
    rw [List.findIdx?_cons]
    have e : PyData.eqv (pD a) (pD h) = (a == h) := by
      rw [Bool.eq_iff_iff, eqv_same (n := 1) (show plain 1 (pD a) = true from plain_ints [a.1, a.2] 0) (show plain 1 (pD h) = true from plain_ints [h.1, h.2] 0)]
      exact ⟨fun q => by rw [pD_inj q]; simp, fun q => by rw [eq_of_beq q]⟩
    rw [e]
    by_cases q : a = h
    · subst q; simp
    · have q' : (a == h) = false := by simpa using q
      rw [q', List.idxOf_cons, q']
      simp only [Bool.false_eq_true, if_false]
      rcases List.mem_cons.mp hm with z | z
      · exact absurd z.symm q
      · rw [ih z]; rfl
/-- the shortest person whose runs differ -/
def barM (ns ms : List Int) : Option Int := (((srt ns).zip ((runsM ns).zip (runsM ms))).filter (fun q => !decide (q.2.1 = q.2.2))).head?.map (·.1)
def barD : Option Int → PyData
  | none => .none
  | some z => .int z
theorem runs_len (ns : List Int) : (runsM ns).length = ns.length := by unfold runsM runsC; rw [goR_len, codes_len]
theorem zip2_map {α β : Type} (f : α → PyData) (g : β → PyData) : ∀ (xs : List α) (ys : List β), zip2 (xs.map f) (ys.map g) = (xs.zip ys).map (fun q => .tuple [f q.1, g q.2])
  | [], _ => rfl
  | _ :: _, [] => rfl
  | x :: xs, y :: ys => congrArg (PyData.tuple [f x, g y] :: ·) (zip2_map f g xs ys)
theorem zip3_map {α β γ : Type} (f : α → PyData) (g : β → PyData) (h : γ → PyData) : ∀ (xs : List α) (ys : List β) (zs : List γ), zip3 (xs.map f) (ys.map g) (zs.map h) = (xs.zip (ys.zip zs)).map (fun q => .tuple [f q.1, g q.2.1, h q.2.2])
  | [], _, _ => rfl
  | _ :: _, [], _ => rfl
  | _ :: _, _ :: _, [] => rfl
  | x :: xs, y :: ys, z :: zs => congrArg (PyData.tuple [f x, g y, h z] :: ·) (zip3_map f g h xs ys zs)
theorem cut_from {α : Type} (xs : List α) (n : Nat) : cut xs (some (n : Int)) none = xs.drop n := by
  unfold cut
  rw [HT.sIx_nat, HT.sIx_none]
  by_cases h : n ≤ xs.length
  · rw [Nat.min_eq_left h, List.take_of_length_le (by rw [List.length_drop]; exact Nat.le_refl _)]
  · rw [Nat.min_eq_right (by omega), List.drop_length, List.drop_eq_nil_of_le (by omega), List.take_nil]
theorem cut_to {α : Type} (xs : List α) (n : Nat) : cut xs none (some (n : Int)) = xs.take n := by
  unfold cut
  rw [HT.sIx_nat, HT.sIx_none, Nat.sub_zero, List.drop_zero]
  by_cases h : n ≤ xs.length
  · rw [Nat.min_eq_left h]
  · rw [Nat.min_eq_right (by omega), List.take_length, List.take_of_length_le (by omega)]
theorem cut_map {α β : Type} (f : α → β) (xs : List α) (a b : Option Int) : cut (xs.map f) a b = (cut xs a b).map f := by
  unfold cut
  rw [List.length_map, List.map_take, List.map_drop]
theorem lt2 {α : Type} {a b : α} : [a, b].length ≤ 100000 := by show 2 ≤ 100000; decide
theorem lt1 {α : Type} {a : α} : [a].length ≤ 100000 := by show 1 ≤ 100000; decide
theorem lt3 {α : Type} {a b c : α} : [a, b, c].length ≤ 100000 := by show 3 ≤ 100000; decide
theorem yes_of {φ ψ : G → Prop} {g : G} (h : φ g) : dYes g fun b g3 => if b = true then φ g3 else ψ g3 := by
  show if true = true then φ g else ψ g
  rw [if_pos rfl]; exact h
end DL

set_option Elab.async false
set_option linter.all false
set_option maxRecDepth 100000
set_option autoImplicit false
namespace DL
open PySem PySem.Spec PyProof.Rows L2
theorem bit01 (b : Bool) : -(2 ^ 64) < (if b = true then (1 : Int) else 0) ∧ (if b = true then (1 : Int) else 0) < 2 ^ 64 := by cases b <;> decide
theorem log_small {b : Int} (h0 : 0 < b) (h : b ≤ 10 ^ 100) : b.natAbs.log2 < 9000 := by
  have h1 : b.natAbs ≤ 10 ^ 100 := by omega
  have h2 : b.natAbs < 2 ^ 9000 := Nat.lt_of_le_of_lt h1 (by decide +kernel)
  exact (Nat.log2_lt (by omega)).mpr h2
theorem mod_small (x : Int) {m d : Int} (hm : 0 < m) (h : m + d < 2 ^ 64 ∧ 0 ≤ d) : -(2 ^ 64) < x % m + d ∧ x % m + d < 2 ^ 64 := by
  have a := Int.emod_nonneg x (show m ≠ 0 by omega)
  have b := Int.emod_lt_of_pos x hm
  omega
theorem Sq.seqA {x : PyData} {ds : List PyData} (h : Sq x ds) : ∃ t, ∀ g, seqOf g (.d x) = some (t, ds) := by
  rcases h with rfl | rfl
  · exact ⟨false, fun _ => rfl⟩
  · exact ⟨true, fun _ => rfl⟩
theorem atI_int {α : Type} {xs : List α} {r : Int} (h0 : 0 ≤ r) (h1 : r < xs.length) : ∃ x, x ∈ xs ∧ xs[r.toNat]? = some x ∧ atI xs r = some x := by
  have hl : r.toNat < xs.length := by omega
  refine ⟨xs[r.toNat], List.getElem_mem hl, List.getElem?_eq_getElem hl, ?_⟩
  have e : ((r.toNat : Nat) : Int) = r := Int.toNat_of_nonneg h0
  have z := atI_get (List.getElem?_eq_getElem hl)
  rw [e] at z
  exact z
theorem seqIx {n : Nat} {r : Int} (h0 : 0 ≤ r) (h1 : r < n) : seqIndex? r n = some r.toNat := by
  refine (ixN_seq ?_).1
  unfold ixN
  rw [if_pos h0, if_pos h1]
theorem perm_pop {α : Type} {f l ds : List α} {i : Nat} {x : α} (h : (f ++ l).Perm ds) (hx : l[i]? = some x) : ((f ++ [x]) ++ l.eraseIdx i).Perm ds := by
  refine List.Perm.trans ?_ h
  rw [List.append_assoc]
  refine List.Perm.append_left f ?_
  have hl := (List.getElem?_eq_some_iff.mp hx).1
  have hv := (List.getElem?_eq_some_iff.mp hx).2
  rw [List.eraseIdx_eq_take_drop_succ]
  have e : l = l.take i ++ x :: l.drop (i + 1) := by
    rw [← hv, ← List.drop_eq_getElem_cons hl, List.take_append_drop]
  conv => rhs; rw [e]
  show (x :: (l.take i ++ l.drop (i + 1))).Perm _
  exact List.perm_middle.symm
/-- the keys of a dict that holds True at whole numbers -/
def kD (ks : List Int) : IKs := ks.map fun z => (Sum.inl z, .bool true)
theorem kD_has (ks : List Int) (i : Int) : hasK (kD ks) i = decide (i ∈ ks) := by
  unfold hasK kD
  induction ks with
  | nil => rfl
  | cons a t ih =>
    rw [List.map_cons, List.any_cons, ih]
    by_cases e : a = i
    · subst e; simp
    · have e' : ¬ i = a := fun z => e z.symm
      simp [e, e']
theorem kD_put {ks : List Int} {i : Int} (h : i ∉ ks) : putD (kD ks) i (.bool true) = kD (ks ++ [i]) := by
  unfold putD
  rw [kD_has, if_neg (by simpa using h)]
  unfold kD
  rw [List.map_append]
  rfl
theorem kD_keys (ks : List Int) : (kD ks).map (·.1) = ks.map Sum.inl := by unfold kD; rw [List.map_map]; rfl
/-- one of m numbers is free -/
theorem all_in : ∀ (m : Nat) (ks : List Int), (∀ v : Int, 1 ≤ v → v ≤ m → v ∈ ks) → m ≤ ks.length
  | 0, _, _ => Nat.zero_le _
  | m + 1, ks, h => by
    have hm : ((m + 1 : Nat) : Int) ∈ ks := h _ (by omega) (by omega)
    have z := all_in m (ks.erase ((m + 1 : Nat) : Int)) fun v h1 h2 => (List.mem_erase_of_ne (by omega)).mpr (h v h1 (by omega))
    rw [List.length_erase_of_mem hm] at z
    have := List.length_pos_of_mem hm
    omega
theorem free_one {ks : List Int} {m : Nat} (h : ks.length < m) : ∃ v : Int, 1 ≤ v ∧ v ≤ m ∧ v ∉ ks := by
  apply Classical.byContradiction
  intro hn
  have z := all_in m ks fun v h1 h2 => Classical.byContradiction fun hc => hn ⟨v, h1, h2, hc⟩
  omega
theorem step_free {v s top : Int} (v1 : 1 ≤ v) (v2 : v ≤ top) (s1 : 1 ≤ s) (s2 : s ≤ top) (ne : v ≠ s) : 1 ≤ s % top + 1 ∧ s % top + 1 ≤ top ∧ ((v - (s % top + 1)) % top).toNat < ((v - s) % top).toNat := by
  have wrap : ∀ x : Int, -top ≤ x → x < 0 → x % top = x + top := fun x h1 h2 => by
    rw [← Int.add_emod_right, Int.emod_eq_of_lt (by omega) (by omega)]
  by_cases e : s = top
  · subst e
    rw [Int.emod_self, Int.emod_eq_of_lt (show 0 ≤ v - (0 + 1) by omega) (by omega), wrap (v - s) (by omega) (by omega)]
    omega
  · have es : s % top = s := Int.emod_eq_of_lt (by omega) (by omega)
    rw [es]
    by_cases q : s < v
    · rw [Int.emod_eq_of_lt (show 0 ≤ v - (s + 1) by omega) (by omega), Int.emod_eq_of_lt (show 0 ≤ v - s by omega) (by omega)]
      omega
    · rw [wrap (v - s) (by omega) (by omega), wrap (v - (s + 1)) (by omega) (by omega)]
      omega
theorem perm_zD {es : List PyData} {hs : List Int} (h : es.Perm (zD hs)) : ∃ ns, es = zD ns ∧ ns.Perm hs := by
  have hall : ∀ d ∈ es, ∃ i : Int, d = .int i := fun d hd => by
    obtain ⟨i, _, e⟩ := List.mem_map.mp (h.mem_iff.mp hd)
    exact ⟨i, e.symm⟩
  have ex : ∀ (es : List PyData), (∀ d ∈ es, ∃ i : Int, d = .int i) → ∃ ns, es = zD ns := by
    intro es
    induction es with
    | nil => intro _; exact ⟨[], rfl⟩
    | cons d t ih =>
      intro q
      obtain ⟨i, rfl⟩ := q d List.mem_cons_self
      obtain ⟨ns, rfl⟩ := ih fun d hd => q d (List.mem_cons_of_mem _ hd)
      exact ⟨i :: ns, rfl⟩
  obtain ⟨ns, rfl⟩ := ex es hall
  refine ⟨ns, rfl, ?_⟩
  have un : ∀ l : List Int, (zD l).map (fun d => match d with | .int i => i | _ => 0) = l := fun l => by
    unfold zD
    rw [List.map_map]
    exact List.map_id' l
  have z := h.map (fun d => match d with | .int i => i | _ => 0)
  rw [un, un] at z
  exact z
theorem sh_int {i : Int} : SeqAt.shaped (.int i) = true := plain_shaped (n := 1) rfl (by decide)
theorem eqv_int {a b : Int} : PyData.eqv (.int a) (.int b) = decide (a = b) := by
  rw [PyData.eqv]
  rfl
theorem rng0 (n : Nat) : rng 0 n = (List.range n).map (fun (i : Nat) => PyData.int (i : Int)) := by
  unfold rng
  exact List.map_congr_left fun i _ => by rw [Int.zero_add]
theorem set_last {α : Type} {l : List α} {x y : α} : (l ++ [x]).set l.length y = l ++ [y] := by
  rw [List.set_append_right _ _ (Nat.le_refl _), Nat.sub_self]
  rfl
/-- the law's own call -/
theorem law_in {K : PySem.W.Frag} {H : Hp} {a : Addr} {ns : List Int} {C : List R → (Res → Prop) → Prop} {E : XK} (hS : SqL K H a (ns.map V.int)) (hC : ∀ kk : Res → Prop, kk (.dat (.bool true)) → C [.s ns] kk) : spN K C [.ref a] H (fun v _ => v = .bl true) E := by
  refine ⟨H, fun _ => none, [.s ns], fun r => r = .dat (.bool true), ?_, .cons ⟨a, rfl, hS⟩ .nil, hC _ rfl, ?_⟩
  · exact { fb := Same.refl _, bh := Same.refl _, fo := (fun _ _ e => nomatch e), pre := ⟨[], rfl⟩, len := rfl, nd := List.nodup_nil, lv := (fun _ h => nomatch h), nb := (fun j a ct h => by simp at h), ce := (fun j a ct h => by simp at h), sl := (fun i r h => by simp at h), tm := (fun _ h => nomatch h), sln := rfl }
  · rintro v H' q B' al' ce' rfl S' hr
    exact dq_bool hr
/-- a box of draws; at most n draws out of its own numbers so far -/
def BoxOk (n : Nat) (bx : List PyData) : Prop := ∃ a b c : Int, bx = [.int a, .int b, .int c] ∧ 0 ≤ a ∧ 0 ≤ b ∧ b < 2 ^ 62 ∧ 0 ≤ c ∧ c ≤ n
theorem BoxOk.mono {n m : Nat} {bx : List PyData} (h : BoxOk n bx) (hm : n ≤ m) : BoxOk m bx := by
  obtain ⟨a, b, c, e, h1, h2, h3, h4, h5⟩ := h
  exact ⟨a, b, c, e, h1, h2, h3, h4, by omega⟩
def boxM (x : Int) (j : Nat) : List PyData := [.int ((if x < 0 then -x else x) * (if decide ((10 : Int) ^ (18 : Int).toNat ≤ (if x < 0 then -x else x)) = true then 1 else 0)), .int (x % 2305843009213693951 + 39373 * (j : Int) + 29), .int 0]
theorem boxM_ok (x : Int) (j : Nat) (hj : j < 64) : BoxOk 0 (boxM x j) := by
  refine ⟨_, _, _, rfl, ?_, ?_, ?_, Int.le_refl _, Int.le_refl _⟩
  · refine Int.mul_nonneg ?_ ?_
    · split <;> omega
    · split <;> omega
  · have := Int.emod_nonneg x (show (2305843009213693951 : Int) ≠ 0 by decide)
    omega
  · have := Int.emod_lt_of_pos x (show (0 : Int) < 2305843009213693951 by decide)
    omega
end DL

set_option Elab.async false
set_option linter.all false
set_option maxRecDepth 100000
set_option autoImplicit false
namespace DL
open PySem PySem.Spec PyProof.Rows L2
theorem goR_at : ∀ {n : Nat} {here : List (Int × Int)} {cs : List Int} {i : Nat} {p : Int × Int}, PartF 0 n here → BdC n cs → (goR here cs)[i]? = some p → 0 ≤ p.1 ∧ p.1 ≤ p.2 ∧ p.2 + i < n
  | 0, _, [], _, _, _, _, h => by simp [goR] at h
  | 0, _, _ :: _, _, _, _, h, _ => h.elim
  | n + 1, _, [], _, _, _, h, _ => h.elim
  | n + 1, here, c :: cs, 0, p, hp, hb, h => by
    obtain ⟨c0, c1, hb⟩ := hb
    have e : runA here c = p := Option.some.inj h
    obtain ⟨b0, b1, b2, b3⟩ := run_bounds hp c0 (by omega)
    rw [e] at b0 b1 b2 b3
    omega
  | n + 1, here, c :: cs, i + 1, p, hp, hb, h => by
    obtain ⟨c0, c1, hb⟩ := hb
    have np := nextR_part hp c0 (by omega)
    rw [show ((n + 1 : Nat) : Int) - 1 = (n : Int) by omega] at np
    have z := goR_at (i := i) (p := p) np hb h
    omega
theorem runs_at {ns : List Int} {i : Nat} {p : Int × Int} (hn : ns.Nodup) (h : (runsM ns)[i]? = some p) : 0 ≤ p.1 ∧ p.1 ≤ p.2 ∧ p.2 + i < ns.length := by
  unfold runsM runsC at h
  have z := goR_at (iniR_part (codesM ns).length) (by rw [codes_len]; exact codes_bd ns.length ns rfl hn) h
  rw [codes_len] at z
  exact z
/-- a mark beyond its run -/
theorem goR_spoil : ∀ {n : Nat} {here : List (Int × Int)} {cs ms : List Int} {i : Nat} {p : Int × Int} {c : Int}, PartF 0 n here → BdC n cs → InRs (goR here cs) ms → (goR here cs)[i]? = some p → 0 ≤ c → c + i < n → ¬ (p.1 ≤ c ∧ c ≤ p.2) →
    BdC n (ms.take i ++ [c] ++ ms.drop (i + 1)) ∧ (goR here (ms.take i ++ [c] ++ ms.drop (i + 1))).take i = (goR here cs).take i ∧ ∃ q, (goR here (ms.take i ++ [c] ++ ms.drop (i + 1)))[i]? = some q ∧ q ≠ p
  | 0, _, [], _, _, _, _, _, _, _, h, _, _, _ => by simp [goR] at h
  | 0, _, _ :: _, _, _, _, _, _, h, _, _, _, _, _ => h.elim
  | n + 1, _, [], _, _, _, _, _, h, _, _, _, _, _ => h.elim
  | n + 1, _, _ :: _, [], _, _, _, _, _, h, _, _, _, _ => h.elim
  | n + 1, here, c0 :: cs, m :: ms, 0, p, c, hp, hb, hi, h, h0, h1, h2 => by
    have hb' := (goR_same hp hb hi).2
    obtain ⟨l0, l1, hb⟩ := hb
    have e : runA here c0 = p := Option.some.inj h
    obtain ⟨b0, b1, b2, b3⟩ := run_bounds hp h0 (show c < ((n + 1 : Nat) : Int) by omega)
    refine ⟨⟨h0, by omega, hb'.2.2⟩, rfl, runA here c, rfl, fun z => ?_⟩
    rw [z] at b1 b2
    exact h2 ⟨b1, b2⟩
  | n + 1, here, c0 :: cs, m :: ms, i + 1, p, c, hp, hb, hi, h, h0, h1, h2 => by
    obtain ⟨l0, l1, hb⟩ := hb
    obtain ⟨i1, i2, hi⟩ := hi
    have hc : c0 < ((n + 1 : Nat) : Int) := by omega
    obtain ⟨e1, e2⟩ := run_same hp l0 hc i1 i2
    have np := nextR_part hp l0 hc
    rw [show ((n + 1 : Nat) : Int) - 1 = (n : Int) by omega] at np
    obtain ⟨b0, b1, b2, b3⟩ := run_bounds hp l0 hc
    obtain ⟨g1, g2, q, g3, g4⟩ := goR_spoil (c := c) np hb hi (show (goR (nextR here c0) cs)[i]? = some p from h) h0 (by omega) h2
    refine ⟨⟨by omega, by omega, g1⟩, ?_, q, ?_, g4⟩
    · show runA here m :: (goR (nextR here m) (ms.take i ++ [c] ++ ms.drop (i + 1))).take i = runA here c0 :: (goR (nextR here c0) cs).take i
      rw [e1, e2, g2]
    · show (goR (nextR here m) (ms.take i ++ [c] ++ ms.drop (i + 1)))[i]? = some q
      rw [e2]; exact g3
theorem bar_first : ∀ {hs : List Int} {R1 R2 : List (Int × Int)} {i : Nat} {p q : Int × Int} {h : Int}, hs[i]? = some h → R1.take i = R2.take i → R1[i]? = some p → R2[i]? = some q → p ≠ q → ((hs.zip (R1.zip R2)).filter (fun q => !decide (q.2.1 = q.2.2))).head?.map (·.1) = some h
  | [], _, _, _, _, _, _, e, _, _, _, _ => by simp at e
  | _ :: _, [], _, _, _, _, _, _, _, e, _, _ => by simp at e
  | _ :: _, _ :: _, [], _, _, _, _, _, _, _, e, _ => by simp at e
  | h0 :: hs, p0 :: R1, q0 :: R2, 0, p, q, h, e1, _, e2, e3, ne => by
    have e1 : h0 = h := Option.some.inj e1
    have e2 : p0 = p := Option.some.inj e2
    have e3 : q0 = q := Option.some.inj e3
    subst e1 e2 e3
    rw [List.zip_cons_cons, List.zip_cons_cons, List.filter_cons, if_pos (by simpa using ne)]
    rfl
  | h0 :: hs, p0 :: R1, q0 :: R2, i + 1, p, q, h, e1, e, e2, e3, ne => by
    have e' : p0 :: R1.take i = q0 :: R2.take i := e
    injection e' with ea eb
    subst ea
    rw [List.zip_cons_cons, List.zip_cons_cons, List.filter_cons, if_neg (by simp)]
    exact bar_first (i := i) e1 eb e2 e3 ne
theorem bar_same {ns ms : List Int} (h : runsM ns = runsM ms) : barM ns ms = none := by
  unfold barM
  rw [← h]
  have e : ((srt ns).zip ((runsM ns).zip (runsM ns))).filter (fun q => !decide (q.2.1 = q.2.2)) = [] := by
    rw [List.filter_eq_nil_iff]
    intro q hq
    have z := (List.of_mem_zip (a := q.1) (b := q.2) hq).2
    have gen : ∀ (l : List (Int × Int)) (r : (Int × Int) × (Int × Int)), r ∈ l.zip l → r.1 = r.2 := by
      intro l
      induction l with
      | nil => intro r hr; cases hr
      | cons a t ih => intro r hr; rcases List.mem_cons.mp hr with e | e
                       · rw [e]
                       · exact ih r e
    rw [gen _ _ z]
    simp
  rw [e]
  rfl
/-- a row with marks within the runs -/
structure Mate (ns t : List Int) : Prop where
  nd : t.Nodup
  sr : srt t = srt ns
  rn : runsM t = runsM ns
  len : t.length = ns.length
theorem rowW_codes {ns ms : List Int} (hn : ns.Nodup) (hb : BdC ns.length ms) : codesM (rowW ns ms) = ms := codes_row (srt_len ns) (srt_lt hn) hb
theorem rowW_srt {ns ms : List Int} (h : ms.length = ns.length) : srt (rowW ns ms) = srt ns := srt_congr (rowW_perm h)
theorem rowW_nd {ns ms : List Int} (hn : ns.Nodup) (h : ms.length = ns.length) : (rowW ns ms).Nodup := (rowW_perm h).nodup_iff.mpr hn
theorem mate_of {ns ms : List Int} (hn : ns.Nodup) (hi : InRs (runsM ns) ms) : Mate ns (rowW ns ms) ∧ codesM (rowW ns ms) = ms ∧ BdC ns.length ms := by
  unfold runsM runsC at hi
  rw [codes_len] at hi
  have bd := codes_bd ns.length ns rfl hn
  obtain ⟨h1, h2⟩ := goR_same (iniR_part ns.length) bd hi
  have hl : ms.length = ns.length := h2.len
  have hc := rowW_codes hn h2
  refine ⟨⟨rowW_nd hn hl, rowW_srt hl, ?_, (rowW_perm hl).length_eq⟩, hc, h2⟩
  unfold runsM runsC
  rw [hc, hl, codes_len, h1]
theorem mate_self {ns : List Int} (hn : ns.Nodup) : Mate ns ns := ⟨hn, rfl, rfl, rfl⟩
theorem mate_bar {ns t u : List Int} (h1 : Mate ns t) (h2 : Mate ns u) : barM t u = none := bar_same (h1.rn.trans h2.rn.symm)
theorem bd_bounds : ∀ {n : Nat} {cs : List Int}, BdC n cs → ∀ c ∈ cs, 0 ≤ c ∧ c < n
  | 0, [], _, _, h => by cases h
  | 0, _ :: _, h, _, _ => h.elim
  | _ + 1, [], h, _, _ => h.elim
  | n + 1, c :: cs, h, d, hd => by
    rcases List.mem_cons.mp hd with e | e
    · subst e; have := h.1; have := h.2.1; omega
    · have := bd_bounds h.2.2 d e; omega
theorem InRs.len : ∀ {ps : List (Int × Int)} {ms : List Int}, InRs ps ms → ms.length = ps.length
  | [], [], _ => rfl
  | _ :: _, _ :: _, h => by rw [List.length_cons, List.length_cons, InRs.len h.2.2]
  | [], _ :: _, h => h.elim
  | _ :: _, [], h => h.elim
/-- the row with a mark beyond its run -/
structure Spoilt (ns ms : List Int) (i : Nat) (h : Int) (o : List Int) : Prop where
  nd : o.Nodup
  sr : srt o = srt ns
  len : o.length = ns.length
  tk : (runsM o).take i = (runsM ns).take i
  bar : ∀ t, Mate ns t → barM t o = some h ∧ barM o t = some h
theorem spoilt_of {ns ms : List Int} {i : Nat} {p : Int × Int} {c h : Int} (hn : ns.Nodup) (hi : InRs (runsM ns) ms) (hp : (runsM ns)[i]? = some p) (h0 : 0 ≤ c) (h1 : c + i < ns.length) (h2 : ¬ (p.1 ≤ c ∧ c ≤ p.2)) (hh : (srt ns)[i]? = some h) :
    BdC ns.length (ms.take i ++ [c] ++ ms.drop (i + 1)) ∧ Spoilt ns ms i h (rowW ns (ms.take i ++ [c] ++ ms.drop (i + 1))) := by
  have hi' := hi
  have hp' := hp
  unfold runsM runsC at hi' hp'
  rw [codes_len] at hi' hp'
  have bd := codes_bd ns.length ns rfl hn
  obtain ⟨g1, g2, q, g3, g4⟩ := goR_spoil (iniR_part ns.length) bd hi' hp' h0 h1 h2
  have hl := g1.len
  have hc := rowW_codes hn g1
  have er : runsM (rowW ns (ms.take i ++ [c] ++ ms.drop (i + 1))) = goR (iniR ns.length) (ms.take i ++ [c] ++ ms.drop (i + 1)) := by
    unfold runsM runsC
    rw [hc, hl]
  have en : runsM ns = goR (iniR ns.length) (codesM ns) := by unfold runsM runsC; rw [codes_len]
  have sr := rowW_srt (ns := ns) hl
  refine ⟨g1, rowW_nd hn hl, sr, (rowW_perm hl).length_eq, by rw [er, en]; exact g2, fun t ht => ⟨?_, ?_⟩⟩
  · unfold barM
    rw [ht.sr, ht.rn, er]
    exact bar_first hh (by rw [en]; exact g2.symm) hp g3 (Ne.symm g4)
  · unfold barM
    rw [sr, ht.rn, er]
    exact bar_first hh (by rw [en]; exact g2) g3 hp g4
theorem InRs_snoc : ∀ {ps : List (Int × Int)} {ms : List Int} {j : Nat} {p : Int × Int} {c : Int}, InRs (ps.take j) ms → ps[j]? = some p → p.1 ≤ c → c ≤ p.2 → InRs (ps.take (j + 1)) (ms ++ [c])
  | [], _, _, _, _, _, e, _, _ => by simp at e
  | p0 :: ps, [], 0, p, c, h, e, h1, h2 => by
    have e : p0 = p := Option.some.inj e
    subst e
    exact ⟨h1, h2, trivial⟩
  | p0 :: ps, _ :: _, 0, _, _, h, _, _, _ => h.elim
  | p0 :: ps, [], j + 1, _, _, h, _, _, _ => h.elim
  | p0 :: ps, m :: ms, j + 1, p, c, h, e, h1, h2 => ⟨h.1, h.2.1, InRs_snoc (j := j) h.2.2 e h1 h2⟩
def tupD (l : List Int) : PyData := .tuple (zD l)
end DL

set_option Elab.async false
set_option linter.all false
set_option maxRecDepth 100000
set_option autoImplicit false
namespace DL
open PySem PySem.Spec PyProof.Rows L2
/-! ### exchanges, plain -/
/-- how the next list of runs is made -/
theorem next_form {here : List (Int × Int)} {n c : Int} (h : PartF 0 n here) (h0 : 0 ≤ c) (h1 : c < n) : ∃ A0 Al p Br B0 f l, here = A0 ++ Al ++ p :: (Br ++ B0) ∧ p.1 ≤ c ∧ c ≤ p.2 ∧ nextR here c = A0 ++ (if f ≤ l then [(f, l)] else []) ++ B0.map shiftR ∧ PartF 0 p.1 (A0 ++ Al) ∧ PartF (p.2 + 1) n (Br ++ B0) ∧
    ((Al = [] ∧ A0 = [] ∧ f = p.1 ∧ p.1 = 0) ∨ ∃ q, Al = [q] ∧ f = q.1 ∧ q.2 + 1 = p.1 ∧ q.1 ≤ q.2) ∧ ((Br = [] ∧ B0 = [] ∧ l = p.2 - 1 ∧ p.2 + 1 = n) ∨ ∃ q, Br = [q] ∧ l = q.2 - 1 ∧ q.1 = p.2 + 1 ∧ q.1 ≤ q.2) := by
  obtain ⟨A, p, B, e, _, _, e3, l1, l2, hA, hB⟩ := runA_in h h0 h1
  subst e
  have hn : nextR (A ++ p :: B) c = nextP (A ++ p :: B) A.length := by unfold nextR; rw [e3]
  rw [hn]
  -- left
  have left : ∃ A0 Al f, A = A0 ++ Al ∧ (A ++ p :: B).take (A.length - 1) = A0 ∧ fstR (A ++ p :: B) A.length = f ∧ ((Al = [] ∧ A0 = [] ∧ f = p.1 ∧ p.1 = 0) ∨ ∃ q, Al = [q] ∧ f = q.1 ∧ q.2 + 1 = p.1 ∧ q.1 ≤ q.2) := by
    rcases List.eq_nil_or_concat A with e | ⟨A0, q, e⟩
    · subst e
      refine ⟨[], [], p.1, rfl, rfl, rfl, .inl ⟨rfl, rfl, rfl, ?_⟩⟩
      exact (show (0 : Int) = p.1 from hA).symm
    · rw [List.concat_eq_append] at e
      subst e
      obtain ⟨m, g1, g2⟩ := PartF.split hA
      refine ⟨A0, [q], q.1, rfl, ?_, ?_, .inr ⟨q, rfl, rfl, g2.2.2, g2.2.1⟩⟩
      · rw [List.append_assoc, List.length_append]
        exact List.take_left' (by simp)
      · unfold fstR
        rw [List.append_assoc, List.length_append, show A0.length + [q].length - 1 = A0.length by simp, List.getD_eq_getElem?_getD, List.getElem?_append_right (Nat.le_refl _), Nat.sub_self]
        rfl
  have right : ∃ Br B0 l, B = Br ++ B0 ∧ (A ++ p :: B).drop (A.length + 2) = B0 ∧ lstR (A ++ p :: B) A.length = l ∧ ((Br = [] ∧ B0 = [] ∧ l = p.2 - 1 ∧ p.2 + 1 = n) ∨ ∃ q, Br = [q] ∧ l = q.2 - 1 ∧ q.1 = p.2 + 1 ∧ q.1 ≤ q.2) := by
    cases B with
    | nil =>
      refine ⟨[], [], p.2 - 1, rfl, List.drop_eq_nil_of_le (by simp), ?_, .inl ⟨rfl, rfl, rfl, hB⟩⟩
      unfold lstR
      rw [List.length_append, show min (A.length + [p].length - 1) (A.length + 1) = A.length by simp, List.getD_eq_getElem?_getD, List.getElem?_append_right (Nat.le_refl _), Nat.sub_self]
      rfl
    | cons q B =>
      refine ⟨[q], B, q.2 - 1, rfl, ?_, ?_, .inr ⟨q, rfl, rfl, hB.1, hB.2.1⟩⟩
      · rw [List.drop_append, List.drop_eq_nil_of_le (by omega), show A.length + 2 - A.length = 2 by omega]
        rfl
      · unfold lstR
        rw [List.length_append, show min (A.length + (p :: q :: B).length - 1) (A.length + 1) = A.length + 1 by simp, List.getD_eq_getElem?_getD, List.getElem?_append_right (by omega), show A.length + 1 - A.length = 1 by omega]
        rfl
  obtain ⟨A0, Al, f, e1, e2, e3', hl⟩ := left
  obtain ⟨Br, B0, l, e4, e5, e6, hr⟩ := right
  refine ⟨A0, Al, p, Br, B0, f, l, ?_, l1, l2, ?_, ?_, ?_, hl, hr⟩
  · rw [← e1, ← e4]
  · unfold nextP
    rw [e2, e3', e5, e6]
  · rw [← e1]; exact hA
  · rw [← e4]; exact hB
/-- two indices in one part -/
def Jn (ps : List (Int × Int)) (i : Int) : Prop := ∃ q ∈ ps, q.1 ≤ i ∧ i + 1 ≤ q.2
theorem part_mem : ∀ {ps : List (Int × Int)} {a b : Int} {q : Int × Int}, PartF a b ps → q ∈ ps → a ≤ q.1 ∧ q.1 ≤ q.2 ∧ q.2 + 1 ≤ b
  | [], _, _, _, _, h => by cases h
  | p :: r, a, b, q, hp, h => by
    rcases List.mem_cons.mp h with e | e
    · subst e
      have := hp.2.2.le
      have := hp.1
      exact ⟨by omega, hp.2.1, by omega⟩
    · have z := part_mem hp.2.2 e
      have := hp.1
      have := hp.2.1
      exact ⟨by omega, z.2.1, z.2.2⟩
theorem jn_new {here : List (Int × Int)} {n c : Int} (h : PartF 0 n here) (h0 : 0 < c) (h1 : c + 1 < n) : Jn (nextR here c) (c - 1) := by
  obtain ⟨A0, Al, p, Br, B0, f, l, e, l1, l2, en, hA, hB, hl, hr⟩ := next_form (c := c) h (by omega) (by omega)
  have hf : f ≤ c - 1 := by
    rcases hl with ⟨_, _, z, z0⟩ | ⟨q, _, z1, z2, z3⟩
    · omega
    · omega
  have hll : c ≤ l := by
    rcases hr with ⟨_, _, z, z0⟩ | ⟨q, _, z1, z2, z3⟩
    · omega
    · omega
  refine ⟨(f, l), ?_, hf, by show c - 1 + 1 ≤ l; omega⟩
  rw [en, if_pos (by omega)]
  simp
theorem jn_left {here : List (Int × Int)} {n c i : Int} (h : PartF 0 n here) (h0 : 0 ≤ c) (h1 : c < n) (hj : Jn here i) (hc : c < i) : Jn (nextR here c) (i - 1) := by
  obtain ⟨A0, Al, p, Br, B0, f, l, e, l1, l2, en, hA, hB, hl, hr⟩ := next_form h h0 h1
  obtain ⟨q, hq, q1, q2⟩ := hj
  have hfp : f ≤ p.1 := by
    rcases hl with ⟨_, _, z, z0⟩ | ⟨q, _, z1, z2, z3⟩ <;> omega
  rw [e] at hq
  rcases List.mem_append.mp hq with hq | hq
  · have z := part_mem hA hq
    omega
  · rcases List.mem_cons.mp hq with e1 | hq
    · subst e1
      have hlp : q.2 - 1 ≤ l := by
        rcases hr with ⟨_, _, z, z0⟩ | ⟨q, _, z1, z2, z3⟩ <;> omega
      refine ⟨(f, l), ?_, by show f ≤ i - 1; omega, by show i - 1 + 1 ≤ l; omega⟩
      rw [en, if_pos (by omega)]
      simp
    · rcases List.mem_append.mp hq with hq | hq
      · rcases hr with ⟨z, _⟩ | ⟨r, z, z1, z2, z3⟩
        · rw [z] at hq; cases hq
        · rw [z] at hq
          have er := List.mem_singleton.mp hq
          subst er
          refine ⟨(f, l), ?_, by show f ≤ i - 1; omega, by show i - 1 + 1 ≤ l; omega⟩
          rw [en, if_pos (by omega)]
          simp
      · refine ⟨shiftR q, ?_, by show q.1 - 1 ≤ i - 1; omega, by show i - 1 + 1 ≤ q.2 - 1; omega⟩
        rw [en]
        exact List.mem_append_right _ (List.mem_map_of_mem hq)
theorem jn_right {here : List (Int × Int)} {n c i : Int} (h : PartF 0 n here) (h0 : 0 ≤ c) (h1 : c < n) (hj : Jn here i) (hc : i + 1 < c) : Jn (nextR here c) i := by
  obtain ⟨A0, Al, p, Br, B0, f, l, e, l1, l2, en, hA, hB, hl, hr⟩ := next_form h h0 h1
  obtain ⟨q, hq, q1, q2⟩ := hj
  have hlp : p.2 - 1 ≤ l := by
    rcases hr with ⟨_, _, z, z0⟩ | ⟨q, _, z1, z2, z3⟩ <;> omega
  rw [e] at hq
  rcases List.mem_append.mp hq with hq | hq
  · rcases List.mem_append.mp hq with hq | hq
    · refine ⟨q, ?_, q1, q2⟩
      rw [en]
      exact List.mem_append_left _ (List.mem_append_left _ hq)
    · rcases hl with ⟨z, _⟩ | ⟨r, z, z1, z2, z3⟩
      · rw [z] at hq; cases hq
      · rw [z] at hq
        have er := List.mem_singleton.mp hq
        subst er
        refine ⟨(f, l), ?_, by show f ≤ i; omega, by show i + 1 ≤ l; omega⟩
        rw [en, if_pos (by omega)]
        simp
  · have hfp : f ≤ p.1 := by
      rcases hl with ⟨_, _, z, z0⟩ | ⟨q, _, z1, z2, z3⟩ <;> omega
    rcases List.mem_cons.mp hq with e1 | hq
    · subst e1
      refine ⟨(f, l), ?_, by show f ≤ i; omega, by show i + 1 ≤ l; omega⟩
      rw [en, if_pos (by omega)]
      simp
    · have z := part_mem hB hq
      omega
theorem jn_run {ps : List (Int × Int)} {n i j : Int} (h : PartF 0 n ps) (hj : Jn ps i) (hij : j = i ∨ j = i + 1) : (runA ps j).1 ≤ i ∧ i + 1 ≤ (runA ps j).2 := by
  obtain ⟨q, hq, q1, q2⟩ := hj
  obtain ⟨A, B, e⟩ := List.append_of_mem hq
  subst e
  obtain ⟨m, g1, g2⟩ := PartF.split h
  have e1 : q.1 = m := g2.1
  rw [← e1] at g1
  have z := (runA_at (B := B) (i := j) g1 (by omega) (by omega)).1
  rw [z]
  exact ⟨q1, q2⟩
/-! codes of rows in parts -/
theorem restR_app (a b : List Int) (h : Int) : restR (a ++ b) h = restR a h ++ restR b h := by unfold restR; rw [List.filter_append]
theorem restR_nil_of {l : List Int} {h : Int} (H : ∀ m ∈ l, m < h) : restR l h = [] := by
  unfold restR
  rw [List.filter_eq_nil_iff]
  intro m hm
  have := H m hm
  simp
  omega
theorem restR_one_in {x h : Int} (H : h ≤ x) : restR [x] h = [x] := by unfold restR; simp [H]
theorem restR_one_out {x h : Int} (H : x < h) : restR [x] h = [] := by unfold restR; simp; omega
/-- the row and the row after the exchange -/
abbrev rowE (A : List Int) (x : Int) (M : List Int) (y : Int) (D : List Int) : List Int := A ++ x :: (M ++ y :: D)
theorem rowE_perm (A : List Int) (x : Int) (M : List Int) (y : Int) (D : List Int) : (rowE A y M x D).Perm (rowE A x M y D) := by
  unfold rowE
  refine List.Perm.append_left A ?_
  have h1 : (y :: (M ++ x :: D)).Perm (y :: x :: (M ++ D)) := List.Perm.cons y List.perm_middle
  have h2 : (x :: (M ++ y :: D)).Perm (x :: y :: (M ++ D)) := List.Perm.cons x List.perm_middle
  exact h1.trans ((List.Perm.swap x y _).trans h2.symm)
theorem restR_rowE (A : List Int) (x : Int) (M : List Int) (y : Int) (D : List Int) (h : Int) : restR (rowE A x M y D) h = restR A h ++ (restR [x] h ++ (restR M h ++ (restR [y] h ++ restR D h))) := by
  unfold rowE
  rw [restR_app, show x :: (M ++ y :: D) = [x] ++ (M ++ ([y] ++ D)) from rfl, restR_app, restR_app, restR_app]
/-- whoever is taller than one of the two: nothing changes -/
theorem code_tall {A M D : List Int} {x y z : Int} (hM : ∀ m ∈ M, m < x ∧ m < y) (hz : (x < z) ∨ (y < z)) : codeI (rowE A y M x D) z = codeI (rowE A x M y D) z := by
  unfold codeI codeN
  rw [restR_rowE, restR_rowE]
  have e : restR M z = [] := restR_nil_of fun m hm => by have := hM m hm; omega
  rw [e]
  rcases hz with h | h
  · rw [restR_one_out h]
    simp
  · rw [restR_one_out h]
    simp
theorem idxOf_notin {l1 l2 : List Int} {z : Int} (h : z ∉ l1) : (l1 ++ l2).idxOf z = l1.length + l2.idxOf z := by
  rw [List.idxOf_append, if_neg h]
  omega
theorem idxOf_in {l1 l2 : List Int} {z : Int} (h : z ∈ l1) : (l1 ++ l2).idxOf z = l1.idxOf z := by
  rw [List.idxOf_append, if_pos h]
/-- whoever is shorter than both: nothing changes -/
theorem code_short {A M D : List Int} {x y z : Int} (hx : z < x) (hy : z < y) : codeI (rowE A y M x D) z = codeI (rowE A x M y D) z := by
  unfold codeI codeN
  rw [restR_rowE, restR_rowE, restR_one_in (by omega : z ≤ x), restR_one_in (by omega : z ≤ y)]
  congr 1
  by_cases hA : z ∈ restR A z
  · rw [idxOf_in hA, idxOf_in hA]
  · rw [idxOf_notin hA, idxOf_notin hA]
    congr 1
    rw [idxOf_notin (l1 := [x]) (by simp; omega), idxOf_notin (l1 := [y]) (by simp; omega)]
    congr 1
    by_cases hM : z ∈ restR M z
    · rw [idxOf_in hM, idxOf_in hM]
    · rw [idxOf_notin hM, idxOf_notin hM, idxOf_notin (l1 := [x]) (by simp; omega), idxOf_notin (l1 := [y]) (by simp; omega)]
      rfl
/-- the shorter one of the two -/
theorem code_x {A M D : List Int} {x y : Int} (hM : ∀ m ∈ M, m < x ∧ m < y) (hxy : x < y) (hA : x ∉ A) : codeI (rowE A x M y D) x = (restR A x).length ∧ codeI (rowE A y M x D) x = (restR A x).length + 1 := by
  have hA' : x ∉ restR A x := fun h => hA (List.mem_filter.mp h).1
  have e : restR M x = [] := restR_nil_of fun m hm => (hM m hm).1
  refine ⟨?_, ?_⟩
  · unfold codeI codeN
    rw [restR_rowE, restR_one_in (Int.le_refl x), idxOf_notin hA', idxOf_in (l1 := [x]) (by simp)]
    simp
  · unfold codeI codeN
    rw [restR_rowE, e, restR_one_in (by omega : x ≤ y), restR_one_in (Int.le_refl x), idxOf_notin hA', idxOf_notin (l1 := [y]) (by simp; omega), idxOf_notin (l1 := []) (by simp), idxOf_in (l1 := [x]) (by simp)]
    simp
end DL

set_option Elab.async false
set_option linter.all false
set_option maxRecDepth 100000
set_option autoImplicit false
namespace DL
open PySem PySem.Spec PyProof.Rows L2
theorem code_min {ns : List Int} {z : Int} (H : ∀ n ∈ ns, z ≤ n) : codeI ns z = (ns.idxOf z : Nat) := by
  unfold codeI codeN
  rw [restR_all H]
theorem mem_rowE {A M D : List Int} {x y z : Int} : z ∈ rowE A x M y D ↔ z ∈ A ∨ z = x ∨ z ∈ M ∨ z = y ∨ z ∈ D := by
  unfold rowE
  simp only [List.mem_append, List.mem_cons]
theorem len_rowE {A M D : List Int} {x y : Int} : (rowE A x M y D).length = A.length + M.length + D.length + 2 := by
  unfold rowE
  simp only [List.length_append, List.length_cons]
  omega
theorem nd_rowE {A M D : List Int} {x y : Int} (h : (rowE A x M y D).Nodup) : x ∉ A ∧ x ∉ M ∧ x ≠ y ∧ x ∉ D ∧ y ∉ A ∧ y ∉ M ∧ y ∉ D ∧ (∀ z ∈ M, z ∉ A) ∧ (∀ z ∈ D, z ∉ A ∧ z ∉ M) := by
  unfold rowE at h
  obtain ⟨h1, h2, h3⟩ := List.nodup_append.mp h
  obtain ⟨h4, h5⟩ := List.nodup_cons.mp h2
  obtain ⟨h6, h7, h8⟩ := List.nodup_append.mp h5
  obtain ⟨h9, h10⟩ := List.nodup_cons.mp h7
  refine ⟨fun z => h3 _ z _ List.mem_cons_self rfl, fun z => h4 (List.mem_append_left _ z), fun z => h4 (by rw [z]; simp), fun z => h4 (by simp [z]), fun z => h3 _ z _ (by simp) rfl, fun z => h8 _ z _ List.mem_cons_self rfl, h9, fun z hz q => h3 _ q _ (by simp [hz]) rfl, fun z hz => ⟨fun q => h3 _ q _ (by simp [hz]) rfl, fun q => h8 _ q _ (by simp [hz]) rfl⟩⟩
theorem erase_A {A M D : List Int} {x y z : Int} (h : z ∈ A) : (rowE A x M y D).erase z = rowE (A.erase z) x M y D := by
  unfold rowE
  rw [List.erase_append_left _ h]
theorem erase_M {A M D : List Int} {x y z : Int} (hA : z ∉ A) (hx : z ≠ x) (h : z ∈ M) : (rowE A x M y D).erase z = rowE A x (M.erase z) y D := by
  unfold rowE
  rw [List.erase_append_right _ hA, List.erase_cons_tail (by simpa using fun e => hx e.symm), List.erase_append_left _ h]
theorem erase_D {A M D : List Int} {x y z : Int} (hA : z ∉ A) (hx : z ≠ x) (hM : z ∉ M) (hy : z ≠ y) : (rowE A x M y D).erase z = rowE A x M y (D.erase z) := by
  unfold rowE
  rw [List.erase_append_right _ hA, List.erase_cons_tail (by simpa using fun e => hx e.symm), List.erase_append_right _ hM, List.erase_cons_tail (by simpa using fun e => hy e.symm)]
/-- the key: an exchange stays within the runs -/
theorem join_runs : ∀ (n : Nat) (here : List (Int × Int)) (A : List Int) (x : Int) (M : List Int) (y : Int) (D : List Int), (rowE A x M y D).length = n → (rowE A x M y D).Nodup → PartF 0 n here → (∀ m ∈ M, m < x ∧ m < y) → (M ≠ [] ∨ Jn here A.length) →
    InRs (goR here (codesM (rowE A x M y D))) (codesM (rowE A y M x D))
  | 0, _, A, x, M, y, D, hl, _, _, _, _ => by rw [len_rowE] at hl; omega
  | n + 1, here, A, x, M, y, D, hl, nd, hp, hM, hj => by
    have pr := rowE_perm A x M y D
    have nd2 : (rowE A y M x D).Nodup := pr.nodup_iff.mpr nd
    obtain ⟨xA, xM, xy, xD, yA, yM, yD, MA, DA⟩ := nd_rowE nd
    cases e : srt (rowE A x M y D) with
    | nil =>
      have z := srt_len (rowE A x M y D)
      rw [e, hl] at z
      cases z
    | cons z t =>
      have e2 : srt (rowE A y M x D) = z :: t := (srt_congr pr).trans e
      have zm : z ∈ rowE A x M y D := srt_mem.mp (e ▸ List.mem_cons_self)
      have zmin : ∀ m ∈ rowE A x M y D, z ≤ m := fun m hm => by
        have hm' : m ∈ z :: t := e ▸ srt_mem.mpr hm
        rcases List.mem_cons.mp hm' with q | q
        · omega
        · have s : (z :: t).Pairwise (· ≤ ·) := e ▸ srt_sorted _
          exact (List.pairwise_cons.mp s).1 m q
      have zmin2 : ∀ m ∈ rowE A y M x D, z ≤ m := fun m hm => zmin m (pr.mem_iff.mp hm)
      rw [codes_cons nd e, codes_cons nd2 e2, code_min zmin, code_min zmin2]
      have zx : z ≤ x := zmin x (mem_rowE.mpr (.inr (.inl rfl)))
      have zy : z ≤ y := zmin y (mem_rowE.mpr (.inr (.inr (.inr (.inl rfl)))))
      have len1 : ((rowE A x M y D).erase z).length = n := by rw [List.length_erase_of_mem zm, hl]; rfl
      have nde : ((rowE A x M y D).erase z).Nodup := nd.erase z
      -- the end of each way where the code stays
      have stay : ∀ (c : Nat) (A' M' D' : List Int), (rowE A x M y D).idxOf z = c → (rowE A y M x D).idxOf z = c → (rowE A x M y D).erase z = rowE A' x M' y D' → (rowE A y M x D).erase z = rowE A' y M' x D' → (∀ m ∈ M', m < x ∧ m < y) → (M' ≠ [] ∨ Jn (nextR here c) A'.length) → c < n + 1 →
          InRs (goR here (((rowE A x M y D).idxOf z : Nat) :: codesM ((rowE A x M y D).erase z))) (((rowE A y M x D).idxOf z : Nat) :: codesM ((rowE A y M x D).erase z)) := fun c A' M' D' c1 c2 g1 g2 hM' hj' hc => by
        have np := nextR_part hp (show (0 : Int) ≤ c by omega) (by omega)
        rw [show ((n + 1 : Nat) : Int) - 1 = (n : Int) by omega] at np
        obtain ⟨b0, b1, b2, b3⟩ := run_bounds hp (show (0 : Int) ≤ c by omega) (by omega)
        rw [c1, c2, g1, g2]
        refine ⟨b1, b2, ?_⟩
        rw [g1] at len1 nde
        exact join_runs n _ A' x M' y D' len1 nde np hM' hj'
      rcases mem_rowE.mp zm with hz | hz | hz | hz | hz
      · -- in front
        have zx' : z ≠ x := fun q => xA (q ▸ hz)
        refine stay (A.idxOf z) (A.erase z) M D (by unfold rowE; exact idxOf_in hz) (by unfold rowE; exact idxOf_in hz) (erase_A hz) (erase_A hz) hM ?_ ?_
        · rcases hj with q | q
          · exact .inl q
          · refine .inr ?_
            have hi := List.idxOf_lt_length_of_mem hz
            rw [List.length_erase_of_mem hz]
            have z1 := jn_left (c := (A.idxOf z : Nat)) hp (by omega) (by rw [← hl, len_rowE]; omega) q (by omega)
            rw [show ((A.length - 1 : Nat) : Int) = (A.length : Int) - 1 by have := List.length_pos_of_mem hz; omega]
            exact z1
        · have := List.idxOf_lt_length_of_mem hz
          rw [← hl, len_rowE]; omega
      · -- the left one itself
        subst hz
        have Mn : M = [] := by
          cases M with
          | nil => rfl
          | cons m M => have := (hM m List.mem_cons_self).1; have := zmin m (mem_rowE.mpr (.inr (.inr (.inl List.mem_cons_self)))); omega
        subst Mn
        have jn : Jn here A.length := hj.resolve_left (fun q => q rfl)
        have i1 : (rowE A z [] y D).idxOf z = A.length := by unfold rowE; rw [idxOf_notin xA, List.idxOf_cons_self]; rfl
        have i2 : (rowE A y [] z D).idxOf z = A.length + 1 := by
          unfold rowE
          rw [idxOf_notin xA, List.nil_append, show y :: z :: D = [y] ++ z :: D from rfl, idxOf_notin (l1 := [y]) (by simpa using xy), List.idxOf_cons_self]
          rfl
        have g1 : (rowE A z [] y D).erase z = A ++ y :: D := by unfold rowE; rw [List.erase_append_right _ xA, List.erase_cons_head]; rfl
        have g2 : (rowE A y [] z D).erase z = A ++ y :: D := by
          unfold rowE
          rw [List.erase_append_right _ xA, List.nil_append, List.erase_cons_tail (by simpa using fun q => xy q.symm), List.erase_cons_head]
        rw [i1, i2, g1, g2]
        rw [g1] at len1 nde
        have np := nextR_part hp (show (0 : Int) ≤ (A.length : Nat) by omega) (by rw [← hl, len_rowE]; omega)
        rw [show ((n + 1 : Nat) : Int) - 1 = (n : Int) by omega] at np
        obtain ⟨b1, b2⟩ := jn_run hp jn (.inl rfl)
        refine ⟨by omega, by omega, ?_⟩
        exact inRs_self np (codes_bd n _ len1 nde)
      · -- between
        have zA := MA z hz
        have zx' : z ≠ x := fun q => xM (q ▸ hz)
        have zy' : z ≠ y := fun q => yM (q ▸ hz)
        have hi := List.idxOf_lt_length_of_mem hz
        refine stay (A.length + (1 + M.idxOf z)) A (M.erase z) D ?_ ?_ (erase_M zA zx' hz) (erase_M zA zy' hz) (fun m hm => hM m (List.mem_of_mem_erase hm)) ?_ ?_
        · unfold rowE
          rw [idxOf_notin zA, show x :: (M ++ y :: D) = [x] ++ (M ++ y :: D) from rfl, idxOf_notin (l1 := [x]) (by simpa using zx'), idxOf_in hz]
          rfl
        · unfold rowE
          rw [idxOf_notin zA, show y :: (M ++ x :: D) = [y] ++ (M ++ x :: D) from rfl, idxOf_notin (l1 := [y]) (by simpa using zy'), idxOf_in hz]
          rfl
        · by_cases hn : M.erase z = []
          · refine .inr ?_
            have l1 : M.length = 1 := by
              have := congrArg List.length hn
              rw [List.length_erase_of_mem hz] at this
              have := List.length_pos_of_mem hz
              simp at *
              omega
            have z1 := jn_new (c := ((A.length + (1 + M.idxOf z) : Nat) : Int)) hp (by omega) (by rw [← hl, len_rowE]; omega)
            rw [show ((A.length + (1 + M.idxOf z) : Nat) : Int) - 1 = (A.length : Int) by omega] at z1
            exact z1
          · exact .inl hn
        · rw [← hl, len_rowE]; omega
      · -- the right one itself
        subst hz
        have Mn : M = [] := by
          cases M with
          | nil => rfl
          | cons m M => have := (hM m List.mem_cons_self).2; have := zmin m (mem_rowE.mpr (.inr (.inr (.inl List.mem_cons_self)))); omega
        subst Mn
        have jn : Jn here A.length := hj.resolve_left (fun q => q rfl)
        have i1 : (rowE A z [] x D).idxOf z = A.length := by unfold rowE; rw [idxOf_notin yA, List.idxOf_cons_self]; rfl
        have i2 : (rowE A x [] z D).idxOf z = A.length + 1 := by
          unfold rowE
          rw [idxOf_notin yA, List.nil_append, show x :: z :: D = [x] ++ z :: D from rfl, idxOf_notin (l1 := [x]) (by simpa using fun q => xy q.symm), List.idxOf_cons_self]
          rfl
        have g1 : (rowE A z [] x D).erase z = A ++ x :: D := by unfold rowE; rw [List.erase_append_right _ yA, List.erase_cons_head]; rfl
        have g2 : (rowE A x [] z D).erase z = A ++ x :: D := by
          unfold rowE
          rw [List.erase_append_right _ yA, List.nil_append, List.erase_cons_tail (by simpa using xy), List.erase_cons_head]
        rw [i1, i2, g1, g2]
        rw [g2] at len1 nde
        have np := nextR_part hp (show (0 : Int) ≤ (A.length + 1 : Nat) by omega) (by rw [← hl, len_rowE]; omega)
        rw [show ((n + 1 : Nat) : Int) - 1 = (n : Int) by omega] at np
        obtain ⟨b1, b2⟩ := jn_run hp jn (j := ((A.length + 1 : Nat) : Int)) (.inr (by omega))
        refine ⟨by omega, by omega, ?_⟩
        exact inRs_self np (codes_bd n _ len1 nde)
      · -- behind
        obtain ⟨zA, zM⟩ := DA z hz
        have zx' : z ≠ x := fun q => xD (q ▸ hz)
        have zy' : z ≠ y := fun q => yD (q ▸ hz)
        have hi := List.idxOf_lt_length_of_mem hz
        refine stay (A.length + (1 + (M.length + (1 + D.idxOf z)))) A M (D.erase z) ?_ ?_ (erase_D zA zx' zM zy') (erase_D zA zy' zM zx') hM ?_ ?_
        · unfold rowE
          rw [idxOf_notin zA, show x :: (M ++ y :: D) = [x] ++ (M ++ ([y] ++ D)) from rfl, idxOf_notin (l1 := [x]) (by simpa using zx'), idxOf_notin zM, idxOf_notin (l1 := [y]) (by simpa using zy')]
          rfl
        · unfold rowE
          rw [idxOf_notin zA, show y :: (M ++ x :: D) = [y] ++ (M ++ ([x] ++ D)) from rfl, idxOf_notin (l1 := [y]) (by simpa using zy'), idxOf_notin zM, idxOf_notin (l1 := [x]) (by simpa using zx')]
          rfl
        · rcases hj with q | q
          · exact .inl q
          · refine .inr ?_
            exact jn_right (c := ((A.length + (1 + (M.length + (1 + D.idxOf z))) : Nat) : Int)) hp (by omega) (by rw [← hl, len_rowE]; omega) q (by omega)
        · rw [← hl, len_rowE]; omega
/-- an exchange: the same runs -/
theorem exch_in {A M D : List Int} {x y : Int} (nd : (rowE A x M y D).Nodup) (hM : ∀ m ∈ M, m < x ∧ m < y) (hn : M ≠ []) : InRs (runsM (rowE A x M y D)) (codesM (rowE A y M x D)) := by
  unfold runsM runsC
  rw [codes_len]
  exact join_runs _ _ A x M y D rfl nd (iniR_part _) hM (.inl hn)
theorem exch_mate {A M D : List Int} {x y : Int} (nd : (rowE A x M y D).Nodup) (hM : ∀ m ∈ M, m < x ∧ m < y) (hn : M ≠ []) : Mate (rowE A x M y D) (rowE A y M x D) := by
  have h := exch_in nd hM hn
  have pr := rowE_perm A x M y D
  refine ⟨pr.nodup_iff.mpr nd, srt_congr pr, ?_, pr.length_eq⟩
  unfold runsM runsC at h ⊢
  rw [codes_len] at h
  rw [codes_len, codes_len, pr.length_eq]
  exact (goR_same (iniR_part _) (codes_bd _ _ rfl nd) h).1
end DL

set_option Elab.async false
set_option linter.all false
set_option maxRecDepth 100000
set_option autoImplicit false
namespace DL
open PySem PySem.Spec PyProof.Rows L2
/-! ### sights and exchanges -/
def minI (a b : Int) : Int := if b < a then b else a
def betw (ns : List Int) (i j : Nat) : List Int := (ns.drop (i + 1)).take (j - (i + 1))
def seesN (ns : List Int) (i j : Nat) : Bool := (betw ns i j).all (fun z => decide (z < minI (ns.getD i 0) (ns.getD j 0)))
def sightsAt (ns : List Int) (i : Nat) : List (Nat × Nat) := ((List.range' (i + 1) (ns.length - (i + 1))).filter (seesN ns i)).map (fun j => (i, j))
def sightsM (ns : List Int) : List (Nat × Nat) := (List.range ns.length).flatMap (sightsAt ns)
def exchM (ns : List Int) : List (Nat × Nat) := (sightsM ns).filter (fun p => decide (p.1 + 1 < p.2))
def swapM (ns : List Int) (i j : Nat) : List Int := ns.take i ++ [ns.getD j 0] ++ betw ns i j ++ [ns.getD i 0] ++ ns.drop (j + 1)
def pN (p : Nat × Nat) : PyData := pD ((p.1 : Int), (p.2 : Int))
theorem sights_mem {ns : List Int} {i j : Nat} : (i, j) ∈ sightsM ns ↔ i < j ∧ j < ns.length ∧ seesN ns i j = true := by
  unfold sightsM sightsAt
  rw [List.mem_flatMap]
  constructor
  · rintro ⟨k, hk, h⟩
    obtain ⟨l, hl, e⟩ := List.mem_map.mp h
    obtain ⟨h1, h2⟩ := List.mem_filter.mp hl
    cases e
    have := List.mem_range'_1.mp h1
    exact ⟨by omega, by omega, h2⟩
  · rintro ⟨h1, h2, h3⟩
    exact ⟨i, List.mem_range.mpr (by omega), List.mem_map.mpr ⟨j, List.mem_filter.mpr ⟨List.mem_range'_1.mpr ⟨by omega, by omega⟩, h3⟩, rfl⟩⟩
theorem exch_mem {ns : List Int} {i j : Nat} : (i, j) ∈ exchM ns ↔ i + 1 < j ∧ j < ns.length ∧ seesN ns i j = true := by
  unfold exchM
  rw [List.mem_filter, sights_mem]
  simp only [decide_eq_true_eq]
  constructor
  · rintro ⟨⟨h1, h2, h3⟩, h4⟩; exact ⟨h4, h2, h3⟩
  · rintro ⟨h1, h2, h3⟩; exact ⟨⟨by omega, h2, h3⟩, h1⟩
theorem minI_lt {a b m : Int} : m < minI a b ↔ m < a ∧ m < b := by
  unfold minI
  split <;> omega
theorem split_at {ns : List Int} {i j : Nat} (h1 : i < j) (h2 : j < ns.length) : ns = rowE (ns.take i) (ns.getD i 0) (betw ns i j) (ns.getD j 0) (ns.drop (j + 1)) ∧ (ns.take i).length = i ∧ (betw ns i j).length = j - (i + 1) ∧ swapM ns i j = rowE (ns.take i) (ns.getD j 0) (betw ns i j) (ns.getD i 0) (ns.drop (j + 1)) := by
  have e1 : ns.drop i = ns.getD i 0 :: ns.drop (i + 1) := by
    rw [List.drop_eq_getElem_cons (by omega)]
    congr 1
    rw [List.getD_eq_getElem?_getD, List.getElem?_eq_getElem (by omega)]
    rfl
  have e2 : ns.drop (i + 1) = betw ns i j ++ ns.getD j 0 :: ns.drop (j + 1) := by
    have e3 : ns.drop j = ns.getD j 0 :: ns.drop (j + 1) := by
      rw [List.drop_eq_getElem_cons h2]
      congr 1
      rw [List.getD_eq_getElem?_getD, List.getElem?_eq_getElem h2]
      rfl
    rw [← e3]
    unfold betw
    have e4 : (ns.drop (i + 1)).drop (j - (i + 1)) = ns.drop j := by rw [List.drop_drop, show i + 1 + (j - (i + 1)) = j by omega]
    rw [← e4, List.take_append_drop]
  refine ⟨?_, List.length_take_of_le (by omega), ?_, ?_⟩
  · unfold rowE
    rw [← e2, ← e1, List.take_append_drop]
  · unfold betw
    rw [List.length_take, List.length_drop]
    omega
  · unfold swapM rowE
    simp
theorem exch_split {ns : List Int} {i j : Nat} (h : (i, j) ∈ exchM ns) : ∃ A x M y D, ns = rowE A x M y D ∧ A.length = i ∧ M ≠ [] ∧ A.length + (M.length + 1) = j ∧ (∀ m ∈ M, m < x ∧ m < y) ∧ swapM ns i j = rowE A y M x D ∧ x = ns.getD i 0 ∧ y = ns.getD j 0 := by
  obtain ⟨h1, h2, h3⟩ := exch_mem.mp h
  obtain ⟨e1, e2, e3, e4⟩ := split_at (ns := ns) (show i < j by omega) h2
  refine ⟨_, _, _, _, _, e1, e2, fun z => ?_, by omega, fun m hm => ?_, e4, rfl, rfl⟩
  · rw [z] at e3
    simp at e3
    omega
  · have z := List.all_eq_true.mp h3 m hm
    exact minI_lt.mp (of_decide_eq_true z)
theorem getD_rowE {A M D : List Int} {x y : Int} : (rowE A x M y D).getD A.length 0 = x ∧ (rowE A x M y D).getD (A.length + (M.length + 1)) 0 = y ∧ betw (rowE A x M y D) A.length (A.length + (M.length + 1)) = M := by
  refine ⟨?_, ?_, ?_⟩
  · unfold rowE
    rw [List.getD_eq_getElem?_getD, List.getElem?_append_right (Nat.le_refl _), Nat.sub_self]
    rfl
  · unfold rowE
    rw [List.getD_eq_getElem?_getD, List.getElem?_append_right (by omega), show A.length + (M.length + 1) - A.length = M.length + 1 by omega, List.getElem?_cons_succ, List.getElem?_append_right (Nat.le_refl _), Nat.sub_self]
    rfl
  · unfold betw rowE
    rw [List.drop_append, List.drop_eq_nil_of_le (by omega), show A.length + 1 - A.length = 1 by omega]
    show (M ++ y :: D).take _ = M
    rw [show A.length + (M.length + 1) - (A.length + 1) = M.length by omega]
    exact List.take_left
theorem exch_of {A M D : List Int} {x y : Int} (hn : M ≠ []) (hM : ∀ m ∈ M, m < x ∧ m < y) : (A.length, A.length + (M.length + 1)) ∈ exchM (rowE A x M y D) := by
  obtain ⟨e1, e2, e3⟩ := getD_rowE (A := A) (M := M) (D := D) (x := x) (y := y)
  refine exch_mem.mpr ⟨?_, ?_, ?_⟩
  · have := List.length_pos_iff.mpr hn
    omega
  · rw [len_rowE]; omega
  · unfold seesN
    rw [e1, e2, e3, List.all_eq_true]
    exact fun m hm => decide_eq_true (minI_lt.mpr (hM m hm))
/-- what one exchange does -/
structure Exch (ns ts : List Int) (i j : Nat) (h d : Int) : Prop where
  mate : Mate ns ts
  inr : InRs (runsM ns) (codesM ts)
  again : (i, j) ∈ exchM ts
  hm : h ∈ ns
  step : d = 1 ∨ d = -1
  code : codeI ts h = codeI ns h + d
  rest : ∀ z ∈ ns, z ≠ h → codeI ts z = codeI ns z
theorem exch_does {ns : List Int} {i j : Nat} (nd : ns.Nodup) (h : (i, j) ∈ exchM ns) : Exch ns (swapM ns i j) i j (minI (ns.getD i 0) (ns.getD j 0)) (if ns.getD i 0 < ns.getD j 0 then 1 else -1) := by
  obtain ⟨A, x, M, y, D, e, hi, hn, hj, hM, es, ex, ey⟩ := exch_split h
  rw [es, ← ex, ← ey]
  subst e hi hj
  have mt := exch_mate nd hM hn
  have hM' : ∀ m ∈ M, m < y ∧ m < x := fun m hm => ⟨(hM m hm).2, (hM m hm).1⟩
  obtain ⟨xA, xM, xy, xD, yA, yM, yD, MA, DA⟩ := nd_rowE nd
  refine ⟨mt, exch_in nd hM hn, exch_of hn hM', ?_, ?_, ?_, fun z hz hne => ?_⟩
  · unfold minI
    split
    · exact mem_rowE.mpr (.inr (.inr (.inr (.inl rfl))))
    · exact mem_rowE.mpr (.inr (.inl rfl))
  · split
    · exact .inl rfl
    · exact .inr rfl
  · by_cases hxy : x < y
    · obtain ⟨c1, c2⟩ := code_x (D := D) hM hxy xA
      unfold minI
      rw [if_neg (by omega), if_pos hxy, c1, c2]
    · obtain ⟨c1, c2⟩ := code_x (D := D) hM' (show y < x by omega) yA
      unfold minI
      rw [if_pos (by omega), if_neg hxy, c1, c2]
      omega
  · have hz1 : z ≠ minI x y := hne
    by_cases h1 : z < x ∧ z < y
    · exact code_short h1.1 h1.2
    · refine code_tall hM ?_
      unfold minI at hz1
      split at hz1 <;> omega
/-! the steps between two rows -/
def diffsM (ns ms : List Int) : List (Int × Int × Int) := ((srt ns).zip ((codesM ns).zip (codesM ms))).filter (fun q => !decide (q.2.1 = q.2.2))
def absI (i : Int) : Int := if i < 0 then -i else i
def stepsM (ns ms : List Int) : Int := ((diffsM ns ms).map (fun q => absI (q.2.1 - q.2.2))).sum
theorem zip_codes {ns ms : List Int} (h : srt ms = srt ns) : (srt ns).zip ((codesM ns).zip (codesM ms)) = (srt ns).map (fun z => (z, codeI ns z, codeI ms z)) := by
  unfold codesM
  rw [h]
  generalize srt ns = l
  induction l with
  | nil => rfl
  | cons a t ih => rw [List.map_cons, List.map_cons, List.map_cons, List.zip_cons_cons, List.zip_cons_cons, ih]
theorem steps_eq {ns ms : List Int} (h : srt ms = srt ns) : stepsM ns ms = ((srt ns).map (fun z => absI (codeI ns z - codeI ms z))).sum := by
  unfold stepsM diffsM
  rw [zip_codes h]
  generalize srt ns = l
  induction l with
  | nil => rfl
  | cons a t ih =>
    rw [List.map_cons, List.filter_cons]
    by_cases e : codeI ns a = codeI ms a
    · rw [if_neg (by simp [e]), ih, List.map_cons, List.sum_cons, e]
      simp [absI]
    · rw [if_pos (by simp [e]), List.map_cons, List.sum_cons, ih, List.map_cons, List.sum_cons]
theorem sum_one {α : Type} {l : List α} {f g : α → Int} {a : α} (nd : l.Nodup) (ha : a ∈ l) (h : ∀ z ∈ l, z ≠ a → g z = f z) : (l.map g).sum = (l.map f).sum + (g a - f a) := by
  induction l with
  | nil => cases ha
  | cons b t ih =>
    obtain ⟨h1, h2⟩ := List.nodup_cons.mp nd
    rw [List.map_cons, List.map_cons, List.sum_cons, List.sum_cons]
    rcases List.mem_cons.mp ha with e | e
    · subst e
      have et : t.map g = t.map f := List.map_congr_left fun z hz => h z (List.mem_cons_of_mem _ hz) (fun q => h1 (q ▸ hz))
      rw [et]
      omega
    · have hb : g b = f b := h b List.mem_cons_self (fun q => h1 (q ▸ e))
      rw [ih h2 e (fun z hz => h z (List.mem_cons_of_mem _ hz)), hb]
      omega
/-- one exchange more: at most one step more, and of the other kind -/
theorem steps_exch {ns hs ts : List Int} {i j : Nat} {h d : Int} (mt : srt hs = srt ns) (nd : ns.Nodup) (ex : Exch hs ts i j h d) : stepsM ns ts = stepsM ns hs + 1 ∨ stepsM ns ts = stepsM ns hs - 1 := by
  have st : srt ts = srt ns := ex.mate.sr.trans mt
  rw [steps_eq st, steps_eq mt]
  have hm : h ∈ srt ns := by rw [← mt]; exact srt_mem.mpr ex.hm
  rw [sum_one (nodup_of_lt (srt_lt nd)) hm (g := fun z => absI (codeI ns z - codeI ts z)) (f := fun z => absI (codeI ns z - codeI hs z)) fun z hz hne => by
    show absI _ = absI _
    rw [ex.rest z (srt_mem.mp (by rw [mt]; exact hz)) hne]]
  show _ + (absI (codeI ns h - codeI ts h) - absI (codeI ns h - codeI hs h)) = _ ∨ _
  rw [ex.code]
  unfold absI
  rcases ex.step with e | e <;> rw [e] <;> split <;> split <;> omega
theorem steps_self (ns : List Int) : stepsM ns ns = 0 := by
  rw [steps_eq rfl]
  have e : (srt ns).map (fun z => absI (codeI ns z - codeI ns z)) = (srt ns).map (fun _ => (0 : Int)) := List.map_congr_left fun z _ => by rw [Int.sub_self]; rfl
  rw [e]
  generalize srt ns = l
  induction l with
  | nil => rfl
  | cons a t ih => rw [List.map_cons, List.sum_cons, ih]; rfl
/-- the one person whose code changes -/
theorem apart_one {ns ts : List Int} {i j : Nat} {h d : Int} (nd : ns.Nodup) (ex : Exch ns ts i j h d) : ((srt ns).zip ((codesM ns).zip (codesM ts))).filter (fun q => !decide (q.2.1 = q.2.2)) = [(h, codeI ns h, codeI ns h + d)] := by
  rw [zip_codes ex.mate.sr]
  have hm : h ∈ srt ns := srt_mem.mpr ex.hm
  have hr : ∀ z ∈ srt ns, z ≠ h → codeI ts z = codeI ns z := fun z hz => ex.rest z (srt_mem.mp hz)
  have nds := nodup_of_lt (srt_lt nd)
  revert hm hr nds
  generalize srt ns = l
  intro hm hr nds
  induction l with
  | nil => cases hm
  | cons a t ih =>
    obtain ⟨h1, h2⟩ := List.nodup_cons.mp nds
    rw [List.map_cons, List.filter_cons]
    rcases List.mem_cons.mp hm with e | e
    · subst e
      rw [if_pos (by rw [ex.code]; rcases ex.step with q | q <;> rw [q] <;> simp <;> omega)]
      have et : (t.map (fun z => (z, codeI ns z, codeI ts z))).filter (fun q => !decide (q.2.1 = q.2.2)) = [] := by
        rw [List.filter_eq_nil_iff]
        intro q hq
        obtain ⟨z, hz, rfl⟩ := List.mem_map.mp hq
        rw [hr z (List.mem_cons_of_mem _ hz) (fun q => h1 (q ▸ hz))]
        simp
      rw [et, ex.code]
    · rw [if_neg (by rw [hr a List.mem_cons_self (fun q => h1 (q ▸ e))]; simp)]
      exact ih e (fun z hz => hr z (List.mem_cons_of_mem _ hz)) h2
/-! a row without exchanges -/
def NoEx (ns : List Int) : Prop := ∀ A x M y D, ns = rowE A x M y D → M ≠ [] → ¬ ∀ m ∈ M, m < x ∧ m < y
theorem noEx_of {ns : List Int} (h : exchM ns = []) : NoEx ns := fun A x M y D e hn hM => by
  subst e
  have z := exch_of (A := A) (D := D) hn hM
  rw [h] at z
  cases z
def SingP (ps : List (Int × Int)) : Prop := ∀ q ∈ ps, q.1 = q.2
theorem sing_next {here : List (Int × Int)} {n c : Int} (h : PartF 0 n here) (hs : SingP here) (h0 : 0 ≤ c) (h1 : c < n) (hc : c = 0 ∨ c + 1 = n) : SingP (nextR here c) := by
  obtain ⟨A0, Al, p, Br, B0, f, l, e, l1, l2, en, hA, hB, hl, hr⟩ := next_form h h0 h1
  have hp : p.1 = p.2 := hs p (by rw [e]; simp)
  have hfl : f ≤ l → f = l := fun hle => by
    rcases hl with ⟨_, _, z, z0⟩ | ⟨q, zq, z1, z2, z3⟩ <;> rcases hr with ⟨_, _, y, y0⟩ | ⟨r, yr, y1, y2, y3⟩
    · omega
    · have := hs r (by rw [e, yr]; simp); omega
    · have := hs q (by rw [e, zq]; simp); omega
    · have a1 := part_mem hA (show q ∈ A0 ++ Al by rw [zq]; simp)
      have a2 := part_mem hB (show r ∈ Br ++ B0 by rw [yr]; simp)
      omega
  intro q hq
  rw [en] at hq
  rcases List.mem_append.mp hq with hq | hq
  · rcases List.mem_append.mp hq with hq | hq
    · exact hs q (by rw [e]; simp [hq])
    · by_cases c : f ≤ l
      · rw [if_pos c] at hq
        rw [List.mem_singleton.mp hq]
        exact hfl c
      · rw [if_neg c] at hq; cases hq
  · obtain ⟨r, hr', rfl⟩ := List.mem_map.mp hq
    have z := hs r (by rw [e]; simp [hr'])
    show r.1 - 1 = r.2 - 1
    omega
theorem noEx_runs : ∀ (n : Nat) (ns : List Int) (here : List (Int × Int)), ns.length = n → ns.Nodup → NoEx ns → PartF 0 n here → SingP here → ∀ q ∈ goR here (codesM ns), q.1 = q.2
  | 0, ns, here, hl, _, _, _, _, q, hq => by
    have : ns = [] := List.eq_nil_of_length_eq_zero hl
    subst this
    rw [codes_nil] at hq
    cases hq
  | n + 1, ns, here, hl, nd, hx, hp, hs, q, hq => by
    cases e : srt ns with
    | nil =>
      have z := srt_len ns
      rw [e, hl] at z
      cases z
    | cons z t =>
      have zm : z ∈ ns := srt_mem.mp (e ▸ List.mem_cons_self)
      have zmin : ∀ m ∈ ns, z ≤ m := fun m hm => by
        have hm' : m ∈ z :: t := e ▸ srt_mem.mpr hm
        rcases List.mem_cons.mp hm' with q | q
        · omega
        · have s : (z :: t).Pairwise (· ≤ ·) := e ▸ srt_sorted _
          exact (List.pairwise_cons.mp s).1 m q
      rw [codes_cons nd e, code_min zmin] at hq
      obtain ⟨A, B, eA⟩ := List.append_of_mem zm
      have zA : z ∉ A := fun q => by
        rw [eA] at nd
        exact (List.nodup_append.mp nd).2.2 _ q _ List.mem_cons_self rfl
      have ix : ns.idxOf z = A.length := by rw [eA, idxOf_notin zA, List.idxOf_cons_self]; rfl
      have er : ns.erase z = A ++ B := by rw [eA, List.erase_append_right _ zA, List.erase_cons_head]
      have ln : A.length + B.length = n := by
        rw [eA] at hl
        simp at hl
        omega
      rw [ix, er] at hq
      -- at an end
      have hend : (A.length = 0) ∨ (A.length + 1 = n + 1) := by
        rcases List.eq_nil_or_concat A with a | ⟨A0, a, a⟩
        · exact .inl (by rw [a]; rfl)
        · cases B with
          | nil => exact .inr (by simp at ln; omega)
          | cons b B =>
            rw [List.concat_eq_append] at a
            subst a
            refine (hx A0 a [z] b B (by rw [eA]; unfold rowE; simp) (by simp) fun m hm => ?_).elim
            rw [List.mem_singleton.mp hm]
            have h1 := zmin a (by rw [eA]; simp)
            have h2 := zmin b (by rw [eA]; simp)
            have n1 : z ≠ a := fun q => zA (by rw [q]; simp)
            have n2 : z ≠ b := fun q => by
              rw [eA, q] at nd
              have := (List.nodup_append.mp nd).2.1
              simp at this
            omega
      have hxe : NoEx (A ++ B) := by
        rcases hend with a | a
        · have : A = [] := List.eq_nil_of_length_eq_zero a
          subst this
          intro A' x M y D e' hn hM
          refine hx (z :: A') x M y D ?_ hn hM
          rw [eA]
          show z :: B = z :: _
          congr 1
        · have : B = [] := List.eq_nil_of_length_eq_zero (by omega)
          subst this
          intro A' x M y D e' hn hM
          refine hx A' x M y (D ++ [z]) ?_ hn hM
          rw [eA]
          rw [List.append_nil] at e'
          rw [e']
          unfold rowE
          simp
      have hc0 : (0 : Int) ≤ (A.length : Nat) := by omega
      have hc1 : ((A.length : Nat) : Int) < ((n + 1 : Nat) : Int) := by omega
      have hq' : q = runA here (A.length : Nat) ∨ q ∈ goR (nextR here (A.length : Nat)) (codesM (A ++ B)) := List.mem_cons.mp hq
      rcases hq' with hq | hq
      · obtain ⟨A1, p, B1, e1, e2, _⟩ := runA_in hp hc0 hc1
        rw [hq, e2]
        exact hs p (by rw [e1]; simp)
      · have np := nextR_part hp hc0 hc1
        rw [show ((n + 1 : Nat) : Int) - 1 = (n : Int) by omega] at np
        have nde : (A ++ B).Nodup := by rw [← er]; exact nd.erase z
        refine noEx_runs n (A ++ B) _ (by rw [List.length_append]; exact ln) nde hxe np (sing_next hp hs hc0 hc1 ?_) q hq
        rcases hend with a | a
        · exact .inl (by omega)
        · exact .inr (by omega)
theorem noEx_sing {ns : List Int} (nd : ns.Nodup) (h : exchM ns = []) : ∀ q ∈ runsM ns, q.1 = q.2 := fun q hq => by
  unfold runsM runsC at hq
  rw [codes_len] at hq
  refine noEx_runs ns.length ns _ rfl nd (noEx_of h) (iniR_part _) (fun q hq => ?_) q hq
  obtain ⟨i, _, rfl⟩ := List.mem_map.mp hq
  rfl
end DL
namespace DL
open PySem PySem.Spec PyProof.Rows L2
theorem seq_if {g : G} {t : Bool} {ds : List PyData} : seqOf g (.d (if t = true then .tuple ds else .list ds)) = some (t, ds) := by cases t <;> rfl
theorem cut_betw {ns : List Int} {i j : Nat} (h1 : i < j) (h2 : j < ns.length) : cut ns (some ((i : Int) + 1)) (some (j : Int)) = betw ns i j := by
  unfold cut betw
  rw [show ((i : Int) + 1) = ((i + 1 : Nat) : Int) by omega, HT.sIx_nat, HT.sIx_nat, Nat.min_eq_left (by omega), Nat.min_eq_left (by omega)]
theorem at_getD {ns : List Int} {i : Nat} (h : i < ns.length) : atI (zD ns) (i : Int) = some (.int (ns.getD i 0)) := by
  refine atI_get ?_
  rw [List.getElem?_map, List.getD_eq_getElem?_getD, List.getElem?_eq_getElem h]
  rfl
theorem rngN (i m : Nat) : rng ((i : Nat) : Int) m = (List.range' i m).map (fun (j : Nat) => PyData.int (j : Int)) := by
  unfold rng
  rw [List.range'_eq_map_range, List.map_map]
  exact List.map_congr_left fun t _ => by show PyData.int _ = PyData.int _; congr 1
theorem sightsAt_len (ns : List Int) (i : Nat) : (sightsAt ns i).length ≤ ns.length := by
  unfold sightsAt
  rw [List.length_map]
  have z := List.length_filter_le (seesN ns i) (List.range' (i + 1) (ns.length - (i + 1)))
  rw [List.length_range'] at z
  omega
theorem sights_len (ns : List Int) : ∀ i, ((List.range i).flatMap (sightsAt ns)).length ≤ i * ns.length
  | 0 => by simp
  | i + 1 => by
    rw [List.range_succ, List.flatMap_append, List.length_append, List.flatMap_cons, List.flatMap_nil, List.append_nil]
    have h1 := sights_len ns i
    have h2 := sightsAt_len ns i
    rw [Nat.succ_mul]
    omega
def triD (q : Int × Int × Int) : PyData := .tuple [.int q.1, .int q.2.1, .int q.2.2]
def cntM (ps : List (Int × Int)) : Int := ps.foldl (fun a p => a * (p.2 - p.1 + 1)) 1
end DL
namespace DL
open PySem PySem.Spec PyProof.Rows L2
theorem inRs_zip : ∀ {ps : List (Int × Int)} {ms : List Int}, InRs ps ms → ∀ q ∈ ps.zip ms, q.1.1 ≤ q.2 ∧ q.2 ≤ q.1.2
  | [], _, _, q, hq => by cases hq
  | _ :: _, [], h, _, _ => h.elim
  | p :: ps, m :: ms, h, q, hq => by
    rcases List.mem_cons.mp hq with e | e
    · rw [e]; exact ⟨h.1, h.2.1⟩
    · exact inRs_zip h.2.2 q e
theorem Mate.trans {a b c : List Int} (h1 : Mate a b) (h2 : Mate b c) : Mate a c := ⟨h2.nd, h2.sr.trans h1.sr, h2.rn.trans h1.rn, h2.len.trans h1.len⟩
theorem plain_pN (l : List (Nat × Nat)) (n : Nat) : (l.map pN).all (plain (n + 1)) = true := by
  have e : l.map pN = psD (l.map (fun p => ((p.1 : Int), (p.2 : Int)))) := by unfold psD; rw [List.map_map]; rfl
  rw [e]
  exact plain_pairs _ n
def dueD (ns : List Int) : PyData := .list [.tuple (psD (runsM ns)), .int (cntM (runsM ns))]
end DL
namespace DL
open PySem PySem.Spec PyProof.Rows L2
theorem plain_due (ns : List Int) : plain 4 (dueD ns) = true := by
  show (plain 3 (.tuple (psD (runsM ns))) && true) = true
  rw [Bool.and_true]
  exact plain_pairs _ 1
end DL

set_option Elab.async false
set_option linter.all false
set_option maxRecDepth 100000
set_option maxHeartbeats 4000000
set_option autoImplicit false
namespace LawP
open PySem PySem.Spec PyProof.Rows L2 DL
def topS (i : Nat) : Stmt := PySem.Challenge.pw_overlooks_k61_whole_one_code_at_a_time.main.body.getD i (.Pass ⟨0, 0, 0, 0⟩)
abbrev s_look_same : Stmt := topS 5
abbrev N_look_same : List Str := ["one", "other"]
theorem sc_look_same : FnScope N_look_same ["one", "other"] (defScope s_look_same) := ⟨rfl, rfl, rfl, by decide +kernel, rfl, by decide +kernel, by decide +kernel⟩
abbrev s_are_lower : Stmt := topS 7
abbrev N_are_lower : List Str := ["row", "start", "end", "height", "other"]
theorem sc_are_lower : FnScope N_are_lower ["row", "start", "end", "height"] (defScope s_are_lower) := ⟨rfl, rfl, rfl, by decide +kernel, rfl, by decide +kernel, by decide +kernel⟩
abbrev s_sees_at : Stmt := topS 8
abbrev N_sees_at : List Str := ["row", "i", "j"]
theorem sc_sees_at : FnScope N_sees_at ["row", "i", "j"] (defScope s_sees_at) := ⟨rfl, rfl, rfl, by decide +kernel, rfl, by decide +kernel, by decide +kernel⟩
abbrev s_sights : Stmt := topS 9
abbrev N_sights : List Str := ["row", "found", "i", "j"]
theorem sc_sights : FnScope N_sights ["row"] (defScope s_sights) := ⟨rfl, rfl, rfl, by decide +kernel, rfl, by decide +kernel, by decide +kernel⟩
abbrev s_exchanges : Stmt := topS 10
abbrev N_exchanges : List Str := ["row", "i", "j"]
theorem sc_exchanges : FnScope N_exchanges ["row"] (defScope s_exchanges) := ⟨rfl, rfl, rfl, by decide +kernel, rfl, by decide +kernel, by decide +kernel⟩
abbrev s_look_exchange : Stmt := topS 11
abbrev N_look_exchange : List Str := ["row", "pair", "i", "j"]
theorem sc_look_exchange : FnScope N_look_exchange ["row", "pair"] (defScope s_look_exchange) := ⟨rfl, rfl, rfl, by decide +kernel, rfl, by decide +kernel, by decide +kernel⟩
abbrev s_swapped : Stmt := topS 12
abbrev N_swapped : List Str := ["row", "pair", "i", "j"]
theorem sc_swapped : FnScope N_swapped ["row", "pair"] (defScope s_swapped) := ⟨rfl, rfl, rfl, by decide +kernel, rfl, by decide +kernel, by decide +kernel⟩
abbrev s_exchanged : Stmt := topS 13
abbrev N_exchanged : List Str := ["row", "pair"]
theorem sc_exchanged : FnScope N_exchanged ["row", "pair"] (defScope s_exchanged) := ⟨rfl, rfl, rfl, by decide +kernel, rfl, by decide +kernel, by decide +kernel⟩
abbrev s_mover : Stmt := topS 14
abbrev N_mover : List Str := ["row", "pair", "i", "j"]
theorem sc_mover : FnScope N_mover ["row", "pair"] (defScope s_mover) := ⟨rfl, rfl, rfl, by decide +kernel, rfl, by decide +kernel, by decide +kernel⟩
abbrev s_rest_row : Stmt := topS 16
abbrev N_rest_row : List Str := ["row", "height", "other"]
theorem sc_rest_row : FnScope N_rest_row ["row", "height"] (defScope s_rest_row) := ⟨rfl, rfl, rfl, by decide +kernel, rfl, by decide +kernel, by decide +kernel⟩
abbrev s_code_of : Stmt := topS 17
abbrev N_code_of : List Str := ["row", "height"]
theorem sc_code_of : FnScope N_code_of ["row", "height"] (defScope s_code_of) := ⟨rfl, rfl, rfl, by decide +kernel, rfl, by decide +kernel, by decide +kernel⟩
abbrev s_codes : Stmt := topS 18
abbrev N_codes : List Str := ["row", "height"]
theorem sc_codes : FnScope N_codes ["row"] (defScope s_codes) := ⟨rfl, rfl, rfl, by decide +kernel, rfl, by decide +kernel, by decide +kernel⟩
abbrev s_run_at : Stmt := topS 20
abbrev N_run_at : List Str := ["some", "index", "first", "last"]
theorem sc_run_at : FnScope N_run_at ["some", "index"] (defScope s_run_at) := ⟨rfl, rfl, rfl, by decide +kernel, rfl, by decide +kernel, by decide +kernel⟩
abbrev s_next_runs : Stmt := topS 21
abbrev N_next_runs : List Str := ["some", "index", "place", "first", "last", "later", "low", "high"]
theorem sc_next_runs : FnScope N_next_runs ["some", "index"] (defScope s_next_runs) := ⟨rfl, rfl, rfl, by decide +kernel, rfl, by decide +kernel, by decide +kernel⟩
abbrev s_all_lists : Stmt := topS 22
abbrev N_all_lists : List Str := ["row", "here", "found", "height", "index"]
theorem sc_all_lists : FnScope N_all_lists ["row"] (defScope s_all_lists) := ⟨rfl, rfl, rfl, by decide +kernel, rfl, by decide +kernel, by decide +kernel⟩
abbrev s_runs : Stmt := topS 23
abbrev N_runs : List Str := ["row", "lists", "height", "some"]
theorem sc_runs : FnScope N_runs ["row"] (defScope s_runs) := ⟨rfl, rfl, rfl, by decide +kernel, rfl, by decide +kernel, by decide +kernel⟩
abbrev s_bar_of : Stmt := topS 25
abbrev N_bar_of : List Str := ["one", "other", "found", "height", "mine", "its"]
theorem sc_bar_of : FnScope N_bar_of ["one", "other"] (defScope s_bar_of) := ⟨rfl, rfl, rfl, by decide +kernel, rfl, by decide +kernel, by decide +kernel⟩
abbrev s_bar : Stmt := topS 26
abbrev N_bar : List Str := ["one", "other"]
theorem sc_bar : FnScope N_bar ["one", "other"] (defScope s_bar) := ⟨rfl, rfl, rfl, by decide +kernel, rfl, by decide +kernel, by decide +kernel⟩
abbrev s_leads : Stmt := topS 27
abbrev N_leads : List Str := ["one", "other"]
theorem sc_leads : FnScope N_leads ["one", "other"] (defScope s_leads) := ⟨rfl, rfl, rfl, by decide +kernel, rfl, by decide +kernel, by decide +kernel⟩
abbrev s_look_leads : Stmt := topS 28
abbrev N_look_leads : List Str := ["one", "other", "found"]
theorem sc_look_leads : FnScope N_look_leads ["one", "other"] (defScope s_look_leads) := ⟨rfl, rfl, rfl, by decide +kernel, rfl, by decide +kernel, by decide +kernel⟩
abbrev s_differences : Stmt := topS 29
abbrev N_differences : List Str := ["one", "other", "triples", "height", "mine", "its"]
theorem sc_differences : FnScope N_differences ["one", "other"] (defScope s_differences) := ⟨rfl, rfl, rfl, by decide +kernel, rfl, by decide +kernel, by decide +kernel⟩
abbrev s_steps : Stmt := topS 30
abbrev N_steps : List Str := ["one", "other", "height", "mine", "its"]
theorem sc_steps : FnScope N_steps ["one", "other"] (defScope s_steps) := ⟨rfl, rfl, rfl, by decide +kernel, rfl, by decide +kernel, by decide +kernel⟩
abbrev s_count_rows : Stmt := topS 32
abbrev N_count_rows : List Str := ["row", "found", "first", "last"]
theorem sc_count_rows : FnScope N_count_rows ["row"] (defScope s_count_rows) := ⟨rfl, rfl, rfl, by decide +kernel, rfl, by decide +kernel, by decide +kernel⟩
abbrev s_law_cell_at : Stmt := topS 34
abbrev N_law_cell_at : List Str := ["_law_script", "_law_k"]
theorem sc_law_cell_at : FnScope N_law_cell_at ["_law_script", "_law_k"] (defScope s_law_cell_at) := ⟨rfl, rfl, rfl, by decide +kernel, rfl, by decide +kernel, by decide +kernel⟩
abbrev s_law_box : Stmt := topS 35
abbrev N_law_box : List Str := ["_law_script", "_law_k", "_law_core"]
theorem sc_law_box : FnScope N_law_box ["_law_script", "_law_k"] (defScope s_law_box) := ⟨rfl, rfl, rfl, by decide +kernel, rfl, by decide +kernel, by decide +kernel⟩
abbrev s_law_take : Stmt := topS 36
abbrev N_law_take : List Str := ["_law_box_here", "_law_below", "_law_found", "_law_once", "_law_twice"]
theorem sc_law_take : FnScope N_law_take ["_law_box_here", "_law_below"] (defScope s_law_take) := ⟨rfl, rfl, rfl, by decide +kernel, rfl, by decide +kernel, by decide +kernel⟩
abbrev s_law_of : Stmt := topS 37
abbrev N_law_of : List Str := ["_law_box_here", "_law_some"]
theorem sc_law_of : FnScope N_law_of ["_law_box_here", "_law_some"] (defScope s_law_of) := ⟨rfl, rfl, rfl, by decide +kernel, rfl, by decide +kernel, by decide +kernel⟩
abbrev s_law_strewn : Stmt := topS 38
abbrev N_law_strewn : List Str := ["_law_box_here", "_law_some", "_law_left", "_law_found"]
theorem sc_law_strewn : FnScope N_law_strewn ["_law_box_here", "_law_some"] (defScope s_law_strewn) := ⟨rfl, rfl, rfl, by decide +kernel, rfl, by decide +kernel, by decide +kernel⟩
abbrev s_law_souls : Stmt := topS 39
abbrev N_law_souls : List Str := ["_law_box_here", "_law_count", "_law_found", "_law_top", "_law_k", "_law_soul"]
theorem sc_law_souls : FnScope N_law_souls ["_law_box_here", "_law_count"] (defScope s_law_souls) := ⟨rfl, rfl, rfl, by decide +kernel, rfl, by decide +kernel, by decide +kernel⟩
abbrev s_law_crowd : Stmt := topS 40
abbrev N_law_crowd : List Str := ["_law_box_here", "_law_most", "_law_souls_here", "_law_found", "_law_soul"]
theorem sc_law_crowd : FnScope N_law_crowd ["_law_box_here", "_law_most"] (defScope s_law_crowd) := ⟨rfl, rfl, rfl, by decide +kernel, rfl, by decide +kernel, by decide +kernel⟩
abbrev s_law_right : Stmt := topS 41
abbrev N_law_right : List Str := ["_law_box_here", "_law_crowd_here", "_law_due", "_law_souls_here", "_law_here", "_law_turn", "_law_some", "_law_swap", "_law_there", "_law_apart", "_law_first", "_law_last", "_law_soul", "_law_a", "_law_b", "_law_code"]
theorem sc_law_right : FnScope N_law_right ["_law_box_here"] (defScope s_law_right) := ⟨rfl, rfl, rfl, by decide +kernel, rfl, by decide +kernel, by decide +kernel⟩
abbrev s_law : Stmt := topS 42
abbrev N_law : List Str := ["_law_script", "_law_k", "_law_box_here", "_law_turn"]
theorem sc_law : FnScope N_law ["_law_script"] (defScope s_law) := ⟨rfl, rfl, rfl, by decide +kernel, rfl, by decide +kernel, by decide +kernel⟩
structure Fs (K : PySem.W.Frag) (mg : Str → Option Value) where
  f_look_same : Addr
  d_look_same : FuncData
  F_look_same : Fun K "look_same" "look_same" s_look_same f_look_same d_look_same
  m_look_same : mg "look_same" = some (.ref f_look_same)
  b_look_same : Binds K d_look_same ["one", "other"] []
  f_are_lower : Addr
  d_are_lower : FuncData
  F_are_lower : Fun K "are_lower" "are_lower" s_are_lower f_are_lower d_are_lower
  m_are_lower : mg "are_lower" = some (.ref f_are_lower)
  b_are_lower : Binds K d_are_lower ["row", "start", "end", "height"] []
  f_sees_at : Addr
  d_sees_at : FuncData
  F_sees_at : Fun K "sees_at" "sees_at" s_sees_at f_sees_at d_sees_at
  m_sees_at : mg "sees_at" = some (.ref f_sees_at)
  b_sees_at : Binds K d_sees_at ["row", "i", "j"] []
  f_sights : Addr
  d_sights : FuncData
  F_sights : Fun K "sights" "sights" s_sights f_sights d_sights
  m_sights : mg "sights" = some (.ref f_sights)
  b_sights : Binds K d_sights ["row"] []
  f_exchanges : Addr
  d_exchanges : FuncData
  F_exchanges : Fun K "exchanges" "exchanges" s_exchanges f_exchanges d_exchanges
  m_exchanges : mg "exchanges" = some (.ref f_exchanges)
  b_exchanges : Binds K d_exchanges ["row"] []
  f_look_exchange : Addr
  d_look_exchange : FuncData
  F_look_exchange : Fun K "look_exchange" "look_exchange" s_look_exchange f_look_exchange d_look_exchange
  m_look_exchange : mg "look_exchange" = some (.ref f_look_exchange)
  b_look_exchange : Binds K d_look_exchange ["row", "pair"] []
  f_swapped : Addr
  d_swapped : FuncData
  F_swapped : Fun K "swapped" "swapped" s_swapped f_swapped d_swapped
  m_swapped : mg "swapped" = some (.ref f_swapped)
  b_swapped : Binds K d_swapped ["row", "pair"] []
  f_exchanged : Addr
  d_exchanged : FuncData
  F_exchanged : Fun K "exchanged" "exchanged" s_exchanged f_exchanged d_exchanged
  m_exchanged : mg "exchanged" = some (.ref f_exchanged)
  b_exchanged : Binds K d_exchanged ["row", "pair"] []
  f_mover : Addr
  d_mover : FuncData
  F_mover : Fun K "mover" "mover" s_mover f_mover d_mover
  m_mover : mg "mover" = some (.ref f_mover)
  b_mover : Binds K d_mover ["row", "pair"] []
  f_rest_row : Addr
  d_rest_row : FuncData
  F_rest_row : Fun K "rest_row" "rest_row" s_rest_row f_rest_row d_rest_row
  m_rest_row : mg "rest_row" = some (.ref f_rest_row)
  b_rest_row : Binds K d_rest_row ["row", "height"] []
  f_code_of : Addr
  d_code_of : FuncData
  F_code_of : Fun K "code_of" "code_of" s_code_of f_code_of d_code_of
  m_code_of : mg "code_of" = some (.ref f_code_of)
  b_code_of : Binds K d_code_of ["row", "height"] []
  f_codes : Addr
  d_codes : FuncData
  F_codes : Fun K "codes" "codes" s_codes f_codes d_codes
  m_codes : mg "codes" = some (.ref f_codes)
  b_codes : Binds K d_codes ["row"] []
  f_run_at : Addr
  d_run_at : FuncData
  F_run_at : Fun K "run_at" "run_at" s_run_at f_run_at d_run_at
  m_run_at : mg "run_at" = some (.ref f_run_at)
  b_run_at : Binds K d_run_at ["some", "index"] []
  f_next_runs : Addr
  d_next_runs : FuncData
  F_next_runs : Fun K "next_runs" "next_runs" s_next_runs f_next_runs d_next_runs
  m_next_runs : mg "next_runs" = some (.ref f_next_runs)
  b_next_runs : Binds K d_next_runs ["some", "index"] []
  f_all_lists : Addr
  d_all_lists : FuncData
  F_all_lists : Fun K "all_lists" "all_lists" s_all_lists f_all_lists d_all_lists
  m_all_lists : mg "all_lists" = some (.ref f_all_lists)
  b_all_lists : Binds K d_all_lists ["row"] []
  f_runs : Addr
  d_runs : FuncData
  F_runs : Fun K "runs" "runs" s_runs f_runs d_runs
  m_runs : mg "runs" = some (.ref f_runs)
  b_runs : Binds K d_runs ["row"] []
  f_bar_of : Addr
  d_bar_of : FuncData
  F_bar_of : Fun K "bar_of" "bar_of" s_bar_of f_bar_of d_bar_of
  m_bar_of : mg "bar_of" = some (.ref f_bar_of)
  b_bar_of : Binds K d_bar_of ["one", "other"] []
  f_bar : Addr
  d_bar : FuncData
  F_bar : Fun K "bar" "bar" s_bar f_bar d_bar
  m_bar : mg "bar" = some (.ref f_bar)
  b_bar : Binds K d_bar ["one", "other"] []
  f_leads : Addr
  d_leads : FuncData
  F_leads : Fun K "leads" "leads" s_leads f_leads d_leads
  m_leads : mg "leads" = some (.ref f_leads)
  b_leads : Binds K d_leads ["one", "other"] []
  f_look_leads : Addr
  d_look_leads : FuncData
  F_look_leads : Fun K "look_leads" "look_leads" s_look_leads f_look_leads d_look_leads
  m_look_leads : mg "look_leads" = some (.ref f_look_leads)
  b_look_leads : Binds K d_look_leads ["one", "other"] []
  f_differences : Addr
  d_differences : FuncData
  F_differences : Fun K "differences" "differences" s_differences f_differences d_differences
  m_differences : mg "differences" = some (.ref f_differences)
  b_differences : Binds K d_differences ["one", "other"] []
  f_steps : Addr
  d_steps : FuncData
  F_steps : Fun K "steps" "steps" s_steps f_steps d_steps
  m_steps : mg "steps" = some (.ref f_steps)
  b_steps : Binds K d_steps ["one", "other"] []
  f_count_rows : Addr
  d_count_rows : FuncData
  F_count_rows : Fun K "count_rows" "count_rows" s_count_rows f_count_rows d_count_rows
  m_count_rows : mg "count_rows" = some (.ref f_count_rows)
  b_count_rows : Binds K d_count_rows ["row"] []
  f_law_cell_at : Addr
  d_law_cell_at : FuncData
  F_law_cell_at : Fun K "_law_cell_at" "_law_cell_at" s_law_cell_at f_law_cell_at d_law_cell_at
  m_law_cell_at : mg "_law_cell_at" = some (.ref f_law_cell_at)
  b_law_cell_at : Binds K d_law_cell_at ["_law_script", "_law_k"] []
  f_law_box : Addr
  d_law_box : FuncData
  F_law_box : Fun K "_law_box" "_law_box" s_law_box f_law_box d_law_box
  m_law_box : mg "_law_box" = some (.ref f_law_box)
  b_law_box : Binds K d_law_box ["_law_script", "_law_k"] []
  f_law_take : Addr
  d_law_take : FuncData
  F_law_take : Fun K "_law_take" "_law_take" s_law_take f_law_take d_law_take
  m_law_take : mg "_law_take" = some (.ref f_law_take)
  b_law_take : Binds K d_law_take ["_law_box_here", "_law_below"] []
  f_law_of : Addr
  d_law_of : FuncData
  F_law_of : Fun K "_law_of" "_law_of" s_law_of f_law_of d_law_of
  m_law_of : mg "_law_of" = some (.ref f_law_of)
  b_law_of : Binds K d_law_of ["_law_box_here", "_law_some"] []
  f_law_strewn : Addr
  d_law_strewn : FuncData
  F_law_strewn : Fun K "_law_strewn" "_law_strewn" s_law_strewn f_law_strewn d_law_strewn
  m_law_strewn : mg "_law_strewn" = some (.ref f_law_strewn)
  b_law_strewn : Binds K d_law_strewn ["_law_box_here", "_law_some"] []
  f_law_souls : Addr
  d_law_souls : FuncData
  F_law_souls : Fun K "_law_souls" "_law_souls" s_law_souls f_law_souls d_law_souls
  m_law_souls : mg "_law_souls" = some (.ref f_law_souls)
  b_law_souls : Binds K d_law_souls ["_law_box_here", "_law_count"] []
  f_law_crowd : Addr
  d_law_crowd : FuncData
  F_law_crowd : Fun K "_law_crowd" "_law_crowd" s_law_crowd f_law_crowd d_law_crowd
  m_law_crowd : mg "_law_crowd" = some (.ref f_law_crowd)
  b_law_crowd : Binds K d_law_crowd ["_law_box_here", "_law_most"] []
  f_law_right : Addr
  d_law_right : FuncData
  F_law_right : Fun K "_law_right" "_law_right" s_law_right f_law_right d_law_right
  m_law_right : mg "_law_right" = some (.ref f_law_right)
  b_law_right : Binds K d_law_right ["_law_box_here"] []
  f_law : Addr
  d_law : FuncData
  F_law : Fun K "law" "law" s_law f_law d_law
  m_law : mg "law" = some (.ref f_law)
  b_law : Binds K d_law ["_law_script"] []
  m_len : mg "len" = none
  m_abs : mg "abs" = none
  m_int : mg "int" = none
  m_max : mg "max" = none
  m_min : mg "min" = none
  m_list : mg "list" = none
  m_tuple : mg "tuple" = none
  m_all : mg "all" = none
  m_sum : mg "sum" = none
  m_sorted : mg "sorted" = none
  m_zip : mg "zip" = none
  m_range : mg "range" = none
section
variable {P : Program} {w : World} {K : PySem.W.Frag} {mg : Str → Option Value} {base : Heap}
def C_look_same (rs : List R) (k : Res → Prop) : Prop := ∃ x, ∃ y, ∃ ns, ∃ ms, rs = [.d x, .d y] ∧ Sq x (zD ns) ∧ Sq y (zD ms) ∧ ns.length < 1000 ∧ ms.length < 1000 ∧ srt ns = srt ms ∧ k (.dat .none)
theorem ok_look_same (Y : Fs K mg) : FnOk P w K mg base CX0 1 Y.f_look_same Y.d_look_same ["one", "other"] (spN K C_look_same) := by
  refine fnN (k := 0) Y.F_look_same sc_look_same (fun rs kk ⟨_, _, _, _, e, _⟩ => by rw [e]; rfl) (fun cdv A outer s H E hr => ⟨_, (pdss_one (pds_if (pdt_ne hr.units (pd_sorted (by rfl) Y.m_sorted (pda_cons (pd_var 0) pda_nil)) (pd_sorted (by rfl) Y.m_sorted (pda_cons (pd_var 1) pda_nil))) (pdss_one pds_never) pdss_nil)), fun rs kk h => ?_⟩)
  obtain ⟨x, y, ns, ms, rfl, h⟩ := h
  obtain ⟨hx, hy, hl, hl2, he, hk⟩ := h
  obtain ⟨t, ht⟩ := hx.seq (g0 N_look_same.length [.d x, .d y] [])
  obtain ⟨t2, ht2⟩ := hy.seq (g0 N_look_same.length [.d x, .d y] [])
  refine ⟨_, rfl, _, t, ns, rfl, ht, _, rfl, _, t2, ms, rfl, ht2, oNe_of (n := 1) (x := .list (zD (srt ns))) (y := .list (zD (srt ms))) rfl rfl (plain_ints _ 0) (plain_ints _ 0) (by decide) false ?_ ⟨_, rfl, ?_⟩⟩
  · rw [he]; simp
  · exact hk
def C_are_lower (rs : List R) (k : Res → Prop) : Prop := ∃ x, ∃ ns, ∃ a, ∃ b, ∃ hh, rs = [.d x, .d (.int a), .d (.int b), .d (.int hh)] ∧ Sq x (zD ns) ∧ ns.length < 1000 ∧ k (.dat (.bool ((cut ns (some a) (some b)).all (fun z => decide (z < hh)))))
theorem ok_are_lower (Y : Fs K mg) : FnOk P w K mg base CX0 1 Y.f_are_lower Y.d_are_lower ["row", "start", "end", "height"] (spN K C_are_lower) := by
  refine fnN (k := 0) Y.F_are_lower sc_are_lower (fun rs kk ⟨_, _, _, _, _, e, _⟩ => by rw [e]; rfl) (fun cdv A outer s H E hr => ⟨_, (pdss_one (pds_ret (pd_all1 rfl (by rfl) Y.m_all (pda_cons (pd_lc rfl sc_are_lower.nd (pdi_seq (pd_sl (pd_var 0) (pdo_some (pd_var 1)) (pdo_some (pd_var 2)))) (blkOk_by (own := [("other", 4)]) (N := N_are_lower) (sc := defScope s_are_lower) (by decide +kernel)) (fun _ _ _ _ _ => (pdg_name (ws := [4]) 4 sc_are_lower.nd (by decide) rfl (.inl rfl))) (fun _ _ _ _ _ => pdts_nil) (fun _ _ _ _ _ => (pd_lt (pd_var 4) (pd_var 3)))) pda_nil)))), fun rs kk h => ?_⟩)
  obtain ⟨x, ns, a, b, hh, rfl, h⟩ := h
  obtain ⟨hx, hl, hk⟩ := h
  obtain ⟨t, ht⟩ := hx.seqA
  refine ⟨_, rfl, _, rfl, _, rfl, _, rfl, _, rfl, t, _, ht _, t, _, rfl, seq_if, ?_⟩
  rw [cut_map]
  have lc : (cut ns (some a) (some b)).length ≤ 100000 := by
    unfold cut
    rw [List.length_take, List.length_drop]
    omega
  refine lc_map (emb := PyData.int) (fun z => .bool (decide (z < hh))) lc (fun z hz I1 I0 q => ?_) ⟨_, (cut ns (some a) (some b)).map (fun z => decide (z < hh)), rfl, by rw [List.map_map]; rfl, ?_⟩
  · exact ⟨_, rfl, _, rfl, _, _, rfl, rfl, _, rfl, q⟩
  · rw [List.all_map]
    exact hk
def C_sees_at (rs : List R) (k : Res → Prop) : Prop := ∃ x, ∃ ns, ∃ (i : Nat), ∃ (j : Nat), rs = [.d x, .d (.int i), .d (.int j)] ∧ Sq x (zD ns) ∧ ns.length < 1000 ∧ i < j ∧ j < ns.length ∧ k (.dat (.bool (seesN ns i j)))
theorem ok_sees_at (Y : Fs K mg) : FnOk P w K mg base CX0 2 Y.f_sees_at Y.d_sees_at ["row", "i", "j"] (spN K C_sees_at) := by
  have G_are_lower := ok_are_lower (P := P) (w := w) (base := base) Y
  refine fnN (k := 1) Y.F_sees_at sc_sees_at (fun rs kk ⟨_, _, _, _, e, _⟩ => by rw [e]; rfl) (fun cdv A outer s H E hr => ⟨_, (pdss_one (pds_ret (pd_callN G_are_lower (hr.mono (by decide)) (by rfl) Y.m_are_lower Y.F_are_lower.kp Y.b_are_lower (pda_cons (pd_var 0) (pda_cons (pd_add (pd_var 1) pd_int) (pda_cons (pd_var 2) (pda_cons (pd_min2 rfl (by rfl) Y.m_min (pda_cons (pd_ix (pd_var 0) (pd_var 1)) (pda_cons (pd_ix (pd_var 0) (pd_var 2)) pda_nil))) pda_nil))))))), fun rs kk h => ?_⟩)
  obtain ⟨x, ns, i, j, rfl, h⟩ := h
  obtain ⟨hx, hl, h1, h2, hk⟩ := h
  obtain ⟨t, ht⟩ := hx.seqA
  refine ⟨_, rfl, _, rfl, _, _, rfl, rfl, _, rfl, _, rfl, _, rfl, t, _, _, _, ht _, rfl, at_getD (by omega), _, rfl, _, rfl, t, _, _, _, ht _, rfl, at_getD h2, _, _, rfl, by simp [noO], x, ns, _, _, _, rfl, hx, hl, ?_⟩
  rw [cut_betw h1 h2]
  exact hk
def C_sights (rs : List R) (k : Res → Prop) : Prop := ∃ x, ∃ ns, rs = [.d x] ∧ Sq x (zD ns) ∧ ns.length < 100 ∧ k (.new ((sightsM ns).map pN))
theorem ok_sights (Y : Fs K mg) : FnOk P w K mg base CX0 3 Y.f_sights Y.d_sights ["row"] (spN K C_sights) := by
  have G_sees_at := ok_sees_at (P := P) (w := w) (base := base) Y
  refine fnN (k := 2) Y.F_sights sc_sights (fun rs kk ⟨_, _, e, _⟩ => by rw [e]; rfl) (fun cdv A outer s H E hr => ⟨_, (pdss_cons (pds_set (i := 1) sc_sights.nd rfl (.inl rfl) (pd_lstO pda_nil))
      (pdss_cons (pds_for PassesOwn.never rfl (pdi_range1 (by rfl) Y.m_range (pda_cons (pd_len rfl (by rfl) Y.m_len (pda_cons (pd_var 0) pda_nil)) pda_nil)) (pdg_name (ws := [2]) 2 sc_sights.nd (by decide) rfl (.inr rfl)) (pdss_one (pds_expr (pd_extend (pd_var 1) (pda_cons (pd_lc rfl sc_sights.nd (pdi_range2 (by rfl) Y.m_range (pda_cons (pd_add (pd_var 2) pd_int) (pda_cons (pd_len rfl (by rfl) Y.m_len (pda_cons (pd_var 0) pda_nil)) pda_nil))) (blkOk_by (own := [("j", 3)]) (N := N_sights) (sc := defScope s_sights) (by decide +kernel)) (fun _ _ _ _ _ => (pdg_name (ws := [3]) 3 sc_sights.nd (by decide) rfl (.inl rfl))) (fun _ _ _ _ _ => (pdts_one (pdt_val (pd_callN G_sees_at (hr.mono (by decide)) (by rfl) Y.m_sees_at Y.F_sees_at.kp Y.b_sees_at (pda_cons (pd_var 0) (pda_cons (pd_var 2) (pda_cons (pd_var 3) pda_nil))))))) (fun _ _ _ _ _ => (pd_tup (pda_cons (pd_var 2) (pda_cons (pd_var 3) pda_nil))))) pda_nil)))))
      (pdss_one (pds_ret (pd_var 1))))), fun rs kk h => ?_⟩)
  obtain ⟨x, ns, rfl, h⟩ := h
  obtain ⟨hx, hl, hk⟩ := h
  obtain ⟨t, ht⟩ := hx.seqA
  refine ⟨[], rfl, Nat.zero_le _, _, rfl, _, t, _, rfl, ht _, _, rfl, by omega, by rw [List.length_map]; omega, ?_⟩
  rw [List.length_map, Int.toNat_natCast, rng0]
  refine for_inv (fun i g => ∃ a b, g = ⟨[some (.d x), some (.o 0), a, b], [.lst (((List.range i).flatMap (sightsAt ns)).map pN)]⟩) ⟨none, none, rfl⟩ (fun i z g hz hI => ?_) (fun g hI => ?_)
  · obtain ⟨a, b, rfl⟩ := hI
    have hi : i < ns.length := by have := (List.getElem?_eq_some_iff.mp hz).1; rw [List.length_range] at this; exact this
    have ez : z = i := by
      rw [List.getElem?_range hi] at hz
      exact (Option.some.inj hz).symm
    subst ez
    have l1 := sights_len ns z
    have l2 := sightsAt_len ns z
    have l3 : z * ns.length ≤ 100 * 100 := Nat.mul_le_mul (by omega) (by omega)
    refine ⟨_, rfl, ⟨_, rfl⟩, _, rfl, _, _, rfl, rfl, _, rfl, _, t, _, rfl, ht _, _, _, rfl, ⟨by omega, by omega, by rw [List.length_map]; omega, by rw [List.length_map]; omega⟩, ?_⟩
    rw [List.length_map, show ((ns.length : Int) - ((z : Int) + 1)).toNat = ns.length - (z + 1) by omega, show ((z : Int) + 1) = ((z + 1 : Nat) : Int) by omega, rngN]
    refine lc_pure (seesN ns z) (fun j => pN (z, j)) (by rw [List.length_range']; omega) (fun j hj I1 I0 q => ?_) ⟨0, _, _, _, rfl, rfl, rfl, rfl, rfl, ?_, ?_⟩
    · have hj := List.mem_range'_1.mp hj
      refine ⟨_, rfl, _, rfl, _, rfl, by simp [noO], x, ns, z, j, rfl, hx, by omega, by omega, by omega, _, rfl, ite_mono q (fun _ q => ⟨_, rfl, _, rfl, [.int (z : Int), .int (j : Int)], rfl, lt2, _, rfl, q⟩) (fun _ q => q)⟩
    · have e : ((List.range' (z + 1) (ns.length - (z + 1))).filter (seesN ns z)).map (fun j => pN (z, j)) = (sightsAt ns z).map pN := by unfold sightsAt; rw [List.map_map]; rfl
      rw [e, List.length_map, List.length_map]
      omega
    · refine ⟨some (.d (.int (z : Int))), b, ?_⟩
      have e : ((List.range' (z + 1) (ns.length - (z + 1))).filter (seesN ns z)).map (fun j => pN (z, j)) = (sightsAt ns z).map pN := by unfold sightsAt; rw [List.map_map]; rfl
      rw [e, List.range_succ, List.flatMap_append, List.map_append, List.flatMap_cons, List.flatMap_nil, List.append_nil]
      rfl
  · obtain ⟨a, b, rfl⟩ := hI
    rw [List.length_range]
    exact ⟨_, rfl, Nat.zero_le _, _, rfl, hk⟩
def C_exchanges (rs : List R) (k : Res → Prop) : Prop := ∃ x, ∃ ns, rs = [.d x] ∧ Sq x (zD ns) ∧ ns.length < 100 ∧ k (.dat (.list ((exchM ns).map pN)))
theorem ok_exchanges (Y : Fs K mg) : FnOk P w K mg base CX0 4 Y.f_exchanges Y.d_exchanges ["row"] (spN K C_exchanges) := by
  have G_sights := ok_sights (P := P) (w := w) (base := base) Y
  refine fnN (k := 3) Y.F_exchanges sc_exchanges (fun rs kk ⟨_, _, e, _⟩ => by rw [e]; rfl) (fun cdv A outer s H E hr => ⟨_, (pdss_one (pds_ret (pd_lc rfl sc_exchanges.nd (pdi_seq (pd_callN G_sights (hr.mono (by decide)) (by rfl) Y.m_sights Y.F_sights.kp Y.b_sights (pda_cons (pd_var 0) pda_nil))) (blkOk_by (own := [("i", 1), ("j", 2)]) (N := N_exchanges) (sc := defScope s_exchanges) (by decide +kernel)) (fun _ _ _ _ _ => (pdg_tup (n := 2) rfl (pdgs_cons (pdg_name (ws := [1, 2]) 1 sc_exchanges.nd (by decide) rfl (.inl rfl)) (pdgs_cons (pdg_name (ws := [1, 2]) 2 sc_exchanges.nd (by decide) rfl (.inl rfl)) pdgs_nil)))) (fun _ _ _ _ _ => (pdts_one (pdt_gt (pd_var 2) (pd_add (pd_var 1) pd_int)))) (fun _ _ _ _ _ => (pd_tup (pda_cons (pd_var 1) (pda_cons (pd_var 2) pda_nil))))))), fun rs kk h => ?_⟩)
  obtain ⟨x, ns, rfl, h⟩ := h
  obtain ⟨hx, hl, hk⟩ := h
  have l1 := sights_len ns ns.length
  have l3 : ns.length * ns.length ≤ 100 * 100 := Nat.mul_le_mul (by omega) (by omega)
  refine ⟨_, rfl, by simp [noO], x, ns, rfl, hx, hl, _, _, rfl, rfl, ?_⟩
  refine lc_pure (emb := pN) (fun p => decide (p.1 + 1 < p.2)) pN (by show (sightsM ns).length ≤ _; unfold sightsM; omega) (fun p hp I1 I0 q => ?_) hk
  refine ⟨_, rfl, rfl, _, _, rfl, _, _, rfl, rfl, _, rfl, _, rfl, _, _, rfl, rfl, _, _, rfl, rfl, _, rfl, ?_⟩
  rw [show decide ((p.1 : Int) + 1 < (p.2 : Int)) = decide (p.1 + 1 < p.2) from decide_eq_decide.mpr (by omega)]
  exact ite_mono q (fun _ q => ⟨_, rfl, _, rfl, [.int (p.1 : Int), .int (p.2 : Int)], rfl, lt2, _, rfl, q⟩) (fun _ q => q)
def C_look_exchange (rs : List R) (k : Res → Prop) : Prop := ∃ x, ∃ ns, ∃ (i : Nat), ∃ (j : Nat), rs = [.d x, .d (pN (i, j))] ∧ Sq x (zD ns) ∧ ns.length < 1000 ∧ (i, j) ∈ exchM ns ∧ k (.dat .none)
theorem ok_look_exchange (Y : Fs K mg) : FnOk P w K mg base CX0 3 Y.f_look_exchange Y.d_look_exchange ["row", "pair"] (spN K C_look_exchange) := by
  have G_sees_at := ok_sees_at (P := P) (w := w) (base := base) Y
  refine fnN (k := 2) Y.F_look_exchange sc_look_exchange (fun rs kk ⟨_, _, _, _, e, _⟩ => by rw [e]; rfl) (fun cdv A outer s H E hr => ⟨_, (pdss_cons (pds_asg (pd_var 1) (pdg_tup (n := 2) rfl (pdgs_cons (pdg_name (ws := [2, 3]) 2 sc_look_exchange.nd (by decide) rfl (.inl rfl)) (pdgs_cons (pdg_name (ws := [2, 3]) 3 sc_look_exchange.nd (by decide) rfl (.inl rfl)) pdgs_nil))))
      (pdss_one (pds_if (pdt_w (pdw_or (pdt_not (pdt_lelt pd_int (pd_var 2) (pd_sub (pd_var 3) pd_int))) (pdw_or (pdt_not (pdt_lt (pd_var 3) (pd_len rfl (by rfl) Y.m_len (pda_cons (pd_var 0) pda_nil)))) (pdw_or1 (pdt_not (pdt_val (pd_callN G_sees_at (hr.mono (by decide)) (by rfl) Y.m_sees_at Y.F_sees_at.kp Y.b_sees_at (pda_cons (pd_var 0) (pda_cons (pd_var 2) (pda_cons (pd_var 3) pda_nil)))))))))) (pdss_one pds_never) pdss_nil))), fun rs kk h => ?_⟩)
  obtain ⟨x, ns, i, j, rfl, h⟩ := h
  obtain ⟨hx, hl, hm, hk⟩ := h
  obtain ⟨t, ht⟩ := hx.seqA
  obtain ⟨h1, h2, h3⟩ := exch_mem.mp hm
  refine ⟨_, rfl, _, rfl, rfl, _, _, rfl, _, _, rfl, rfl, _, rfl, _, _, rfl, rfl, _, rfl, ?_⟩
  rw [decide_eq_true (show (0 : Int) ≤ (i : Int) by omega)]
  refine ⟨_, rfl, _, _, rfl, rfl, _, _, rfl, rfl, _, rfl, ?_⟩
  rw [decide_eq_true (show (i : Int) < (j : Int) - 1 by omega)]
  refine ⟨_, rfl, _, rfl, _, t, _, rfl, ht _, _, _, rfl, rfl, _, rfl, ?_⟩
  rw [decide_eq_true (show (j : Int) < ((zD ns).length : Nat) by rw [List.length_map]; omega)]
  refine ⟨_, rfl, _, rfl, _, rfl, by simp [noO], x, ns, i, j, rfl, hx, hl, by omega, h2, _, rfl, ?_⟩
  rw [h3]
  exact hk
def C_swapped (rs : List R) (k : Res → Prop) : Prop := ∃ x, ∃ ns, ∃ (i : Nat), ∃ (j : Nat), rs = [.d x, .d (pN (i, j))] ∧ Sq x (zD ns) ∧ ns.length < 1000 ∧ i < j ∧ j < ns.length ∧ k (.dat (.tuple (zD (swapM ns i j))))
theorem ok_swapped (Y : Fs K mg) : FnOk P w K mg base CX0 1 Y.f_swapped Y.d_swapped ["row", "pair"] (spN K C_swapped) := by
  refine fnN (k := 0) Y.F_swapped sc_swapped (fun rs kk ⟨_, _, _, _, e, _⟩ => by rw [e]; rfl) (fun cdv A outer s H E hr => ⟨_, (pdss_cons (pds_asg (pd_var 1) (pdg_tup (n := 2) rfl (pdgs_cons (pdg_name (ws := [2, 3]) 2 sc_swapped.nd (by decide) rfl (.inl rfl)) (pdgs_cons (pdg_name (ws := [2, 3]) 3 sc_swapped.nd (by decide) rfl (.inl rfl)) pdgs_nil))))
      (pdss_one (pds_ret (pd_catT (pd_catT (pd_catT (pd_catT (pd_tuple1 rfl (by rfl) Y.m_tuple (pda_cons (pd_sl (pd_var 0) pdo_none (pdo_some (pd_var 2))) pda_nil)) (pd_tup (pda_cons (pd_ix (pd_var 0) (pd_var 3)) pda_nil))) (pd_tuple1 rfl (by rfl) Y.m_tuple (pda_cons (pd_sl (pd_var 0) (pdo_some (pd_add (pd_var 2) pd_int)) (pdo_some (pd_var 3))) pda_nil))) (pd_tup (pda_cons (pd_ix (pd_var 0) (pd_var 2)) pda_nil))) (pd_tuple1 rfl (by rfl) Y.m_tuple (pda_cons (pd_sl (pd_var 0) (pdo_some (pd_add (pd_var 3) pd_int)) pdo_none) pda_nil)))))), fun rs kk h => ?_⟩)
  obtain ⟨x, ns, i, j, rfl, h⟩ := h
  obtain ⟨hx, hl, h1, h2, hk⟩ := h
  obtain ⟨t, ht⟩ := hx.seqA
  have e1 : cut (zD ns) none (some (i : Int)) = zD (ns.take i) := by rw [cut_map, cut_to]
  have e2 : cut (zD ns) (some ((i : Int) + 1)) (some (j : Int)) = zD (betw ns i j) := by rw [cut_map, cut_betw h1 h2]
  have e3 : cut (zD ns) (some ((j : Int) + 1)) none = zD (ns.drop (j + 1)) := by rw [cut_map, show ((j : Int) + 1) = ((j + 1 : Nat) : Int) by omega, cut_from]
  have lb : (betw ns i j).length ≤ ns.length := by unfold betw; rw [List.length_take, List.length_drop]; omega
  refine ⟨_, rfl, _, rfl, rfl, _, _, rfl, _, _, rfl, rfl, _, rfl, _, rfl, _, rfl, t, _, ht _, _, t, _, rfl, seq_if, ?_⟩
  rw [e1]
  refine ⟨_, rfl, _, rfl, t, _, _, _, ht _, rfl, at_getD h2, [_], rfl, lt1, _, _, rfl, rfl, by rw [List.length_map, List.length_take, List.length_singleton]; omega, ?_⟩
  refine ⟨_, rfl, _, rfl, _, _, rfl, rfl, _, rfl, _, rfl, _, rfl, t, _, ht _, _, t, _, rfl, seq_if, ?_⟩
  rw [e2]
  refine ⟨_, _, rfl, rfl, by rw [List.length_append, List.length_map, List.length_map, List.length_take, List.length_singleton]; omega, ?_⟩
  refine ⟨_, rfl, _, rfl, t, _, _, _, ht _, rfl, at_getD (by omega), [_], rfl, lt1, _, _, rfl, rfl, by rw [List.length_append, List.length_append, List.length_map, List.length_map, List.length_take, List.length_singleton, List.length_singleton]; omega, ?_⟩
  refine ⟨_, rfl, _, rfl, _, _, rfl, rfl, _, rfl, t, _, ht _, _, t, _, rfl, seq_if, ?_⟩
  rw [e3]
  refine ⟨_, _, rfl, rfl, by rw [List.length_append, List.length_append, List.length_append, List.length_map, List.length_map, List.length_map, List.length_take, List.length_drop, List.length_singleton, List.length_singleton]; omega, ?_⟩
  have e4 : zD (swapM ns i j) = zD (ns.take i) ++ [.int (ns.getD j 0)] ++ zD (betw ns i j) ++ [.int (ns.getD i 0)] ++ zD (ns.drop (j + 1)) := by
    unfold swapM zD
    rw [List.map_append, List.map_append, List.map_append, List.map_append]
    rfl
  rw [e4] at hk
  exact hk
def C_exchanged (rs : List R) (k : Res → Prop) : Prop := ∃ x, ∃ ns, ∃ (i : Nat), ∃ (j : Nat), rs = [.d x, .d (pN (i, j))] ∧ Sq x (zD ns) ∧ ns.length < 1000 ∧ (i, j) ∈ exchM ns ∧ k (.dat (.tuple (zD (swapM ns i j))))
theorem ok_exchanged (Y : Fs K mg) : FnOk P w K mg base CX0 4 Y.f_exchanged Y.d_exchanged ["row", "pair"] (spN K C_exchanged) := by
  have G_look_exchange := ok_look_exchange (P := P) (w := w) (base := base) Y
  have G_swapped := ok_swapped (P := P) (w := w) (base := base) Y
  refine fnN (k := 3) Y.F_exchanged sc_exchanged (fun rs kk ⟨_, _, _, _, e, _⟩ => by rw [e]; rfl) (fun cdv A outer s H E hr => ⟨_, (pdss_cons (pds_expr (pd_callN G_look_exchange (hr.mono (by decide)) (by rfl) Y.m_look_exchange Y.F_look_exchange.kp Y.b_look_exchange (pda_cons (pd_var 0) (pda_cons (pd_var 1) pda_nil))))
      (pdss_one (pds_ret (pd_callN G_swapped (hr.mono (by decide)) (by rfl) Y.m_swapped Y.F_swapped.kp Y.b_swapped (pda_cons (pd_var 0) (pda_cons (pd_var 1) pda_nil)))))), fun rs kk h => ?_⟩)
  obtain ⟨x, ns, i, j, rfl, h⟩ := h
  obtain ⟨hx, hl, hm, hk⟩ := h
  obtain ⟨h1, h2, h3⟩ := exch_mem.mp hm
  exact ⟨_, rfl, _, rfl, by simp [noO], x, ns, i, j, rfl, hx, hl, hm, _, rfl, _, rfl, by simp [noO], x, ns, i, j, rfl, hx, hl, by omega, h2, hk⟩
def C_mover (rs : List R) (k : Res → Prop) : Prop := ∃ x, ∃ ns, ∃ (i : Nat), ∃ (j : Nat), rs = [.d x, .d (pN (i, j))] ∧ Sq x (zD ns) ∧ ns.length < 1000 ∧ (i, j) ∈ exchM ns ∧ ns.Nodup ∧ k (.dat (pD (minI (ns.getD i 0) (ns.getD j 0), if ns.getD i 0 < ns.getD j 0 then 1 else -1)))
theorem ok_mover (Y : Fs K mg) : FnOk P w K mg base CX0 4 Y.f_mover Y.d_mover ["row", "pair"] (spN K C_mover) := by
  have G_look_exchange := ok_look_exchange (P := P) (w := w) (base := base) Y
  refine fnN (k := 3) Y.F_mover sc_mover (fun rs kk ⟨_, _, _, _, e, _⟩ => by rw [e]; rfl) (fun cdv A outer s H E hr => ⟨_, (pdss_cons (pds_expr (pd_callN G_look_exchange (hr.mono (by decide)) (by rfl) Y.m_look_exchange Y.F_look_exchange.kp Y.b_look_exchange (pda_cons (pd_var 0) (pda_cons (pd_var 1) pda_nil))))
      (pdss_cons (pds_asg (pd_var 1) (pdg_tup (n := 2) rfl (pdgs_cons (pdg_name (ws := [2, 3]) 2 sc_mover.nd (by decide) rfl (.inl rfl)) (pdgs_cons (pdg_name (ws := [2, 3]) 3 sc_mover.nd (by decide) rfl (.inl rfl)) pdgs_nil))))
      (pdss_one (pds_ret (pd_if (pdt_lt (pd_ix (pd_var 0) (pd_var 2)) (pd_ix (pd_var 0) (pd_var 3))) (pd_tup (pda_cons (pd_ix (pd_var 0) (pd_var 2)) (pda_cons pd_int pda_nil))) (pd_tup (pda_cons (pd_ix (pd_var 0) (pd_var 3)) (pda_cons (pd_neg pd_int) pda_nil)))))))), fun rs kk h => ?_⟩)
  obtain ⟨x, ns, i, j, rfl, h⟩ := h
  obtain ⟨hx, hl, hm, nd, hk⟩ := h
  obtain ⟨t, ht⟩ := hx.seqA
  obtain ⟨h1, h2, h3⟩ := exch_mem.mp hm
  refine ⟨_, rfl, _, rfl, by simp [noO], x, ns, i, j, rfl, hx, hl, hm, _, rfl, _, rfl, rfl, _, _, rfl, _, _, rfl, rfl, _, rfl, _, rfl, t, _, _, _, ht _, rfl, at_getD (by omega), _, rfl, _, rfl, t, _, _, _, ht _, rfl, at_getD h2, _, _, rfl, rfl, _, rfl, ?_⟩
  unfold minI at hk
  by_cases c : ns.getD i 0 < ns.getD j 0
  · refine (if_pos (decide_eq_true c)).mpr ?_
    rw [if_neg (by omega), if_pos c] at hk
    exact ⟨_, rfl, _, rfl, t, _, _, _, ht _, rfl, at_getD (by omega), [.int (ns.getD i 0), .int 1], rfl, lt2, hk⟩
  · refine (if_neg (fun z => c (of_decide_eq_true z))).mpr ?_
    have ne : ns.getD i 0 ≠ ns.getD j 0 := fun z => by
      obtain ⟨A, x', M, y', D, e, hi, hn, hj, hM, es, ex, ey⟩ := exch_split hm
      rw [e] at nd
      have q := (nd_rowE nd).2.2.1
      rw [ex, ey] at q
      exact q z
    rw [if_pos (by omega), if_neg c] at hk
    exact ⟨_, rfl, _, rfl, t, _, _, _, ht _, rfl, at_getD h2, _, rfl, [.int (ns.getD j 0), .int (-1)], rfl, lt2, hk⟩
def C_rest_row (rs : List R) (k : Res → Prop) : Prop := ∃ x, ∃ ns, ∃ hh, rs = [.d x, .d (.int hh)] ∧ Sq x (zD ns) ∧ ns.length < 1000 ∧ k (.dat (.list (zD (restR ns hh))))
theorem ok_rest_row (Y : Fs K mg) : FnOk P w K mg base CX0 1 Y.f_rest_row Y.d_rest_row ["row", "height"] (spN K C_rest_row) := by
  refine fnN (k := 0) Y.F_rest_row sc_rest_row (fun rs kk ⟨_, _, _, e, _⟩ => by rw [e]; rfl) (fun cdv A outer s H E hr => ⟨_, (pdss_one (pds_ret (pd_lc rfl sc_rest_row.nd (pdi_seq (pd_var 0)) (blkOk_by (own := [("other", 2)]) (N := N_rest_row) (sc := defScope s_rest_row) (by decide +kernel)) (fun _ _ _ _ _ => (pdg_name (ws := [2]) 2 sc_rest_row.nd (by decide) rfl (.inl rfl))) (fun _ _ _ _ _ => (pdts_one (pdt_ge (pd_var 2) (pd_var 1)))) (fun _ _ _ _ _ => (pd_var 2))))), fun rs kk h => ?_⟩)
  obtain ⟨x, ns, hh, rfl, h⟩ := h
  obtain ⟨hx, hl, hk⟩ := h
  obtain ⟨t, ht⟩ := hx.seq (g0 N_rest_row.length [.d x, .d (.int hh)] [])
  refine ⟨_, rfl, t, _, rfl, ht, lc_pure (fun n => decide (hh ≤ n)) PyData.int (by omega) (fun n hn I1 I0 q => ?_) hk⟩
  exact ⟨_, rfl, _, rfl, _, _, rfl, rfl, _, rfl, ite_mono q (fun _ q => ⟨_, rfl, _, rfl, q⟩) (fun _ q => q)⟩
def C_code_of (rs : List R) (k : Res → Prop) : Prop := ∃ x, ∃ ns, ∃ hh, rs = [.d x, .d (.int hh)] ∧ Sq x (zD ns) ∧ ns.length < 1000 ∧ hh ∈ ns ∧ k (.dat (.int (codeI ns hh)))
theorem ok_code_of (Y : Fs K mg) : FnOk P w K mg base CX0 2 Y.f_code_of Y.d_code_of ["row", "height"] (spN K C_code_of) := by
  have G_rest_row := ok_rest_row (P := P) (w := w) (base := base) Y
  refine fnN (k := 1) Y.F_code_of sc_code_of (fun rs kk ⟨_, _, _, e, _⟩ => by rw [e]; rfl) (fun cdv A outer s H E hr => ⟨_, (pdss_one (pds_ret (pd_index (un65 hr) (pd_callN G_rest_row (hr.mono (by decide)) (by rfl) Y.m_rest_row Y.F_rest_row.kp Y.b_rest_row (pda_cons (pd_var 0) (pda_cons (pd_var 1) pda_nil))) (pda_cons (pd_var 1) pda_nil)))), fun rs kk h => ?_⟩)
  obtain ⟨x, ns, hh, rfl, h⟩ := h
  obtain ⟨hx, hl, hm, hk⟩ := h
  have hm2 : hh ∈ restR ns hh := List.mem_filter.mpr ⟨hm, decide_eq_true (Int.le_refl hh)⟩
  refine ⟨_, rfl, _, rfl, by simp [noO], x, ns, hh, rfl, hx, hl, ⟨_, rfl⟩, _, rfl, _, _, _, _, rfl, rfl, rfl, plain_shaped (n := 1) (plain_ints _ 0) (by decide), plain_shaped (n := 1) (d := .int hh) rfl (by decide), index_int hm2, hk⟩
def C_codes (rs : List R) (k : Res → Prop) : Prop := ∃ x, ∃ ns, rs = [.d x] ∧ Sq x (zD ns) ∧ ns.length < 1000 ∧ k (.dat (.tuple (zD (codesM ns))))
theorem ok_codes (Y : Fs K mg) : FnOk P w K mg base CX0 3 Y.f_codes Y.d_codes ["row"] (spN K C_codes) := by
  have G_code_of := ok_code_of (P := P) (w := w) (base := base) Y
  refine fnN (k := 2) Y.F_codes sc_codes (fun rs kk ⟨_, _, e, _⟩ => by rw [e]; rfl) (fun cdv A outer s H E hr => ⟨_, (pdss_one (pds_ret (pd_tuple1 rfl (by rfl) Y.m_tuple (pda_cons (pd_lc rfl sc_codes.nd (pdi_seq (pd_sorted (by rfl) Y.m_sorted (pda_cons (pd_var 0) pda_nil))) (blkOk_by (own := [("height", 1)]) (N := N_codes) (sc := defScope s_codes) (by decide +kernel)) (fun _ _ _ _ _ => (pdg_name (ws := [1]) 1 sc_codes.nd (by decide) rfl (.inl rfl))) (fun _ _ _ _ _ => pdts_nil) (fun _ _ _ _ _ => (pd_callN G_code_of (hr.mono (by decide)) (by rfl) Y.m_code_of Y.F_code_of.kp Y.b_code_of (pda_cons (pd_var 0) (pda_cons (pd_var 1) pda_nil))))) pda_nil)))), fun rs kk h => ?_⟩)
  obtain ⟨x, ns, rfl, h⟩ := h
  obtain ⟨hx, hl, hk⟩ := h
  obtain ⟨t, ht⟩ := hx.seq (g0 N_codes.length [.d x] [])
  refine ⟨_, rfl, _, t, ns, rfl, ht, _, _, rfl, rfl, lc_map (emb := PyData.int) (xs := srt ns) (fun z => .int (codeI ns z)) (by rw [srt_len]; omega) (fun z hz I1 I0 q => ?_) ⟨_, _, _, rfl, rfl, ?_⟩⟩
  · exact ⟨_, rfl, _, rfl, by simp [noO], x, ns, z, rfl, hx, hl, srt_mem.mp hz, _, rfl, q⟩
  · have e : (srt ns).map (fun z => PyData.int (codeI ns z)) = zD (codesM ns) := by unfold codesM zD; rw [List.map_map]; rfl
    rw [e]; exact hk
def C_run_at (rs : List R) (k : Res → Prop) : Prop := ∃ z, ∃ ps, ∃ i, rs = [.d z, .d (.int i)] ∧ Sq z (psD ps) ∧ ps.length < 1000 ∧ (∃ p, (ps.filter (inRn i)).head? = some p) ∧ k (.dat (pD (runA ps i)))
theorem ok_run_at (Y : Fs K mg) : FnOk P w K mg base CX0 1 Y.f_run_at Y.d_run_at ["some", "index"] (spN K C_run_at) := by
  refine fnN (k := 0) Y.F_run_at sc_run_at (fun rs kk ⟨_, _, _, e, _⟩ => by rw [e]; rfl) (fun cdv A outer s H E hr => ⟨_, (pdss_one (pds_ret (pd_ix (pd_lc rfl sc_run_at.nd (pdi_seq (pd_var 0)) (blkOk_by (own := [("first", 2), ("last", 3)]) (N := N_run_at) (sc := defScope s_run_at) (by decide +kernel)) (fun _ _ _ _ _ => (pdg_tup (n := 2) rfl (pdgs_cons (pdg_name (ws := [2, 3]) 2 sc_run_at.nd (by decide) rfl (.inl rfl)) (pdgs_cons (pdg_name (ws := [2, 3]) 3 sc_run_at.nd (by decide) rfl (.inl rfl)) pdgs_nil)))) (fun _ _ _ _ _ => (pdts_one (pdt_lele (pd_var 2) (pd_var 1) (pd_var 3)))) (fun _ _ _ _ _ => (pd_tup (pda_cons (pd_var 2) (pda_cons (pd_var 3) pda_nil))))) pd_int))), fun rs kk h => ?_⟩)
  obtain ⟨z, ps, i, rfl, h⟩ := h
  obtain ⟨hz, hl, ⟨p, hp⟩, hk⟩ := h
  obtain ⟨t, ht⟩ := hz.seq (g0 N_run_at.length [.d z, .d (.int i)] [])
  refine ⟨_, rfl, t, _, rfl, ht, lc_pure (fun p => inRn i p) pD (by omega) (fun q hq I1 I0 h => ?_) ⟨_, _, _, _, rfl, rfl, atI_get (i := 0) (x := pD (runA ps i)) ?_, hk⟩⟩
  · refine ⟨_, rfl, rfl, _, _, rfl, _, _, rfl, rfl, _, rfl, _, rfl, _, _, rfl, rfl, _, rfl, ?_⟩
    by_cases c : q.1 ≤ i
    · have e : inRn i q = decide (i ≤ q.2) := by unfold inRn; rw [if_pos (decide_eq_true c)]
      rw [e] at h
      rw [if_pos (decide_eq_true c)]
      exact ⟨_, rfl, _, _, rfl, rfl, _, rfl, ite_mono h (fun _ h => ⟨_, rfl, _, rfl, [.int q.1, .int q.2], rfl, lt2, _, rfl, h⟩) (fun _ h => h)⟩
    · have e : inRn i q = false := by unfold inRn; rw [if_neg (by simpa using c)]
      rw [e, if_neg (by decide)] at h
      rw [if_neg (by simpa using c)]
      exact ⟨_, rfl, h⟩
  · unfold runA
    rw [List.getElem?_map, ← List.head?_eq_getElem?, hp]
    rfl
def C_next_runs (rs : List R) (k : Res → Prop) : Prop := ∃ ps, ∃ i, rs = [.d (.list (psD ps)), .d (.int i)] ∧ ps.length < 1000 ∧ (∃ p, (ps.filter (inRn i)).head? = some p) ∧ k (.dat (.list (psD (nextR ps i))))
theorem ok_next_runs (Y : Fs K mg) : FnOk P w K mg base CX0 2 Y.f_next_runs Y.d_next_runs ["some", "index"] (spN K C_next_runs) := by
  have G_run_at := ok_run_at (P := P) (w := w) (base := base) Y
  refine fnN (k := 1) Y.F_next_runs sc_next_runs (fun rs kk ⟨_, _, e, _⟩ => by rw [e]; rfl) (fun cdv A outer s H E hr => ⟨_, (pdss_cons (pds_set (i := 2) sc_next_runs.nd rfl (.inl rfl) (pd_index (un65 hr) (pd_var 0) (pda_cons (pd_callN G_run_at (hr.mono (by decide)) (by rfl) Y.m_run_at Y.F_run_at.kp Y.b_run_at (pda_cons (pd_var 0) (pda_cons (pd_var 1) pda_nil))) pda_nil)))
      (pdss_cons (pds_par (i := 3) (j := 4) rfl sc_next_runs.nd rfl rfl (by decide) rfl rfl (pda_cons (pd_ix (pd_ix (pd_var 0) (pd_max2 rfl (by rfl) Y.m_max (pda_cons pd_int (pda_cons (pd_sub (pd_var 2) pd_int) pda_nil)))) pd_int) (pda_cons (pd_sub (pd_ix (pd_ix (pd_var 0) (pd_min2 rfl (by rfl) Y.m_min (pda_cons (pd_sub (pd_len rfl (by rfl) Y.m_len (pda_cons (pd_var 0) pda_nil)) pd_int) (pda_cons (pd_add (pd_var 2) pd_int) pda_nil)))) pd_int) pd_int) pda_nil)) (by rfl))
      (pdss_cons (pds_setLc (i := 5) rfl sc_next_runs.nd rfl rfl (sw_true rfl rfl rfl (by decide +kernel)) (pdi_seq (pd_sl (pd_var 0) (pdo_some (pd_add (pd_var 2) pd_int)) pdo_none)) (blkOk_by (own := [("low", 6), ("high", 7)]) (N := N_next_runs) (sc := defScope s_next_runs) (by decide +kernel)) (fun _ _ _ _ _ => (pdg_tup (n := 2) rfl (pdgs_cons (pdg_name (ws := [6, 7]) 6 sc_next_runs.nd (by decide) rfl (.inl rfl)) (pdgs_cons (pdg_name (ws := [6, 7]) 7 sc_next_runs.nd (by decide) rfl (.inl rfl)) pdgs_nil)))) (fun _ _ _ _ _ => pdts_nil) (fun _ _ _ _ _ => (pd_tup (pda_cons (pd_sub (pd_var 6) pd_int) (pda_cons (pd_sub (pd_var 7) pd_int) pda_nil)))))
      (pdss_one (pds_ret (pd_catL (pd_catL (pd_sl (pd_var 0) pdo_none (pdo_some (pd_max2 rfl (by rfl) Y.m_max (pda_cons pd_int (pda_cons (pd_sub (pd_var 2) pd_int) pda_nil))))) (pd_if (pdt_le (pd_var 3) (pd_var 4)) (pd_lst (pda_cons (pd_tup (pda_cons (pd_var 3) (pda_cons (pd_var 4) pda_nil))) pda_nil)) (pd_lst pda_nil))) (pd_var 5))))))), fun rs kk h => ?_⟩)
  obtain ⟨ps, i, rfl, h⟩ := h
  obtain ⟨hl, ⟨p, hp⟩, hk⟩ := h
  have hr0 : runA ps i = p := by unfold runA; rw [hp]; rfl
  have hm : runA ps i ∈ ps := by rw [hr0]; exact (List.mem_filter.mp (List.mem_of_mem_head? hp)).1
  have hpl : ps.idxOf (runA ps i) < ps.length := List.idxOf_lt_length_of_mem hm
  unfold nextR at hk
  revert hk
  generalize epl : ps.idxOf (runA ps i) = pl at hpl
  intro hk
  refine ⟨_, rfl, ⟨_, rfl⟩, _, rfl, _, rfl, by simp [noO], .list (psD ps), ps, i, rfl, sqL, hl, ⟨p, hp⟩, _, _, _, pl, rfl, rfl, rfl, plain_shaped (n := 2) (plain_pairs _ 0) (by decide), plain_shaped (n := 1) (plain_ints [_, _] 0) (by decide), by rw [index_pair hm, epl], ?_⟩
  have a1 : atI (psD ps) (if ((pl : Nat) : Int) - 1 > 0 then ((pl : Nat) : Int) - 1 else 0) = some (pD (ps.getD (pl - 1) (0, 0))) := by
    rw [show (if ((pl : Nat) : Int) - 1 > 0 then ((pl : Nat) : Int) - 1 else 0) = ((pl - 1 : Nat) : Int) by split <;> omega]
    refine atI_get ?_
    rw [List.getElem?_map, List.getD_eq_getElem?_getD, List.getElem?_eq_getElem (show pl - 1 < ps.length by omega)]
    rfl
  have a2 : atI (psD ps) (if ((pl : Nat) : Int) + 1 < (((psD ps).length : Nat) : Int) - 1 then ((pl : Nat) : Int) + 1 else (((psD ps).length : Nat) : Int) - 1) = some (pD (ps.getD (min (ps.length - 1) (pl + 1)) (0, 0))) := by
    rw [List.length_map, show (if ((pl : Nat) : Int) + 1 < ((ps.length : Nat) : Int) - 1 then ((pl : Nat) : Int) + 1 else ((ps.length : Nat) : Int) - 1) = ((min (ps.length - 1) (pl + 1) : Nat) : Int) by split <;> omega]
    refine atI_get ?_
    rw [List.getElem?_map, List.getD_eq_getElem?_getD, List.getElem?_eq_getElem (show min (ps.length - 1) (pl + 1) < ps.length by omega)]
    rfl
  refine ⟨_, rfl, _, rfl, _, _, rfl, rfl, _, _, rfl, _, _, _, _, rfl, rfl, a1, _, _, _, .int (fstR ps pl), rfl, rfl, rfl, ?_⟩
  refine ⟨_, rfl, _, rfl, _, _, _, rfl, rfl, _, _, rfl, rfl, _, rfl, _, _, rfl, rfl, _, _, rfl, _, _, _, _, rfl, rfl, a2, _, _, _, _, rfl, rfl, rfl, _, _, rfl, rfl, _, _, rfl, ?_⟩
  have ec : cut (psD ps) (some (((pl : Nat) : Int) + 2)) none = psD (ps.drop (pl + 2)) := by
    rw [cut_map, show (((pl : Nat) : Int) + 2) = ((pl + 2 : Nat) : Int) by omega, cut_from]
  have et : cut (psD ps) none (some (if ((pl : Nat) : Int) - 1 > 0 then ((pl : Nat) : Int) - 1 else 0)) = psD (ps.take (pl - 1)) := by
    rw [cut_map, show (if ((pl : Nat) : Int) - 1 > 0 then ((pl : Nat) : Int) - 1 else 0) = ((pl - 1 : Nat) : Int) by split <;> omega, cut_to]
  refine ⟨_, rfl, _, rfl, _, _, rfl, rfl, _, rfl, _, _, rfl, _, _, rfl, rfl, ?_⟩
  rw [ec]
  refine lc_map (emb := pD) (fun p => pD (shiftR p)) (by rw [List.length_drop]; omega) (fun q hq I1 I0 h => ?_) ?_
  · exact ⟨_, rfl, rfl, _, _, rfl, _, _, rfl, rfl, _, rfl, _, _, rfl, rfl, _, rfl, _, _, rfl, rfl, [.int (q.1 - 1), .int (q.2 - 1)], rfl, lt2, _, rfl, h⟩
  have ez : psD (nextP ps pl) = psD (ps.take (pl - 1)) ++ (if fstR ps pl ≤ lstR ps pl then [pD (fstR ps pl, lstR ps pl)] else []) ++ (ps.drop (pl + 2)).map (fun p => pD (shiftR p)) := by
    unfold nextP psD
    rw [List.map_append, List.map_append, List.map_map]
    split <;> rfl
  refine ⟨_, rfl, _, rfl, _, _, rfl, rfl, _, _, rfl, _, rfl, _, _, rfl, ?_⟩
  rw [et]
  refine ⟨_, rfl, _, rfl, _, _, rfl, rfl, _, rfl, ?_⟩
  have fin : ∀ (mid : List PyData), mid.length ≤ 1 → (if fstR ps pl ≤ lstR ps pl then [pD (fstR ps pl, lstR ps pl)] else []) = mid → (psD (ps.take (pl - 1))).length + mid.length ≤ 100000 ∧ (psD (ps.take (pl - 1)) ++ mid).length + ((ps.drop (pl + 2)).map (fun p => pD (shiftR p))).length ≤ 100000 ∧ kk (.dat (.list (psD (ps.take (pl - 1)) ++ mid ++ (ps.drop (pl + 2)).map (fun p => pD (shiftR p))))) := fun mid hmid e => by
    subst e
    rw [← ez]
    refine ⟨?_, ?_, hk⟩
    · rw [List.length_map, List.length_take]; omega
    · rw [List.length_append, List.length_map, List.length_map, List.length_take, List.length_drop]; omega
  by_cases c : fstR ps pl ≤ lstR ps pl
  · obtain ⟨f1, f2, f3⟩ := fin [pD (fstR ps pl, lstR ps pl)] (by simp) (by rw [if_pos c])
    refine (if_pos (decide_eq_true c)).mpr ?_
    exact ⟨_, rfl, _, rfl, [.int (fstR ps pl), .int (lstR ps pl)], rfl, lt2, [pD (fstR ps pl, lstR ps pl)], rfl, lt1, _, _, rfl, rfl, rfl, rfl, f1, _, rfl, _, _, rfl, rfl, rfl, rfl, f2, f3⟩
  · obtain ⟨f1, f2, f3⟩ := fin [] (by simp) (by rw [if_neg c])
    refine (if_neg (fun z => c (of_decide_eq_true z))).mpr ?_
    exact ⟨[], rfl, by simp, _, _, rfl, rfl, rfl, rfl, f1, _, rfl, _, _, rfl, rfl, rfl, rfl, f2, f3⟩
def C_all_lists (rs : List R) (k : Res → Prop) : Prop := ∃ x, ∃ ns, rs = [.d x] ∧ Sq x (zD ns) ∧ ns.length < 1000 ∧ ns.Nodup ∧ k (.new ((listsM ns).map (fun l => .list (psD l))))
theorem ok_all_lists (Y : Fs K mg) : FnOk P w K mg base CX0 3 Y.f_all_lists Y.d_all_lists ["row"] (spN K C_all_lists) := by
  have G_code_of := ok_code_of (P := P) (w := w) (base := base) Y
  have G_next_runs := ok_next_runs (P := P) (w := w) (base := base) Y
  refine fnN (k := 2) Y.F_all_lists sc_all_lists (fun rs kk ⟨_, _, e, _⟩ => by rw [e]; rfl) (fun cdv A outer s H E hr => ⟨_, (pdss_cons (pds_par (i := 1) (j := 2) rfl sc_all_lists.nd rfl rfl (by decide) rfl rfl (pda_cons (pd_lc rfl sc_all_lists.nd (pdi_range1 (by rfl) Y.m_range (pda_cons (pd_len rfl (by rfl) Y.m_len (pda_cons (pd_var 0) pda_nil)) pda_nil)) (blkOk_by (own := [("index", 4)]) (N := N_all_lists) (sc := defScope s_all_lists) (by decide +kernel)) (fun _ _ _ _ _ => (pdg_name (ws := [4]) 4 sc_all_lists.nd (by decide) rfl (.inl rfl))) (fun _ _ _ _ _ => pdts_nil) (fun _ _ _ _ _ => (pd_tup (pda_cons (pd_var 4) (pda_cons (pd_var 4) pda_nil))))) (pda_cons (pd_lstO pda_nil) pda_nil)) (by rfl))
      (pdss_cons (pds_for PassesOwn.never rfl (pdi_seq (pd_sorted (by rfl) Y.m_sorted (pda_cons (pd_var 0) pda_nil))) (pdg_name (ws := [3]) 3 sc_all_lists.nd (by decide) rfl (.inl rfl)) (pdss_cons (pds_expr (pd_append (pd_var 2) (pda_cons (pd_var 1) pda_nil)))
      (pdss_one (pds_set (i := 1) sc_all_lists.nd rfl (.inl rfl) (pd_callN G_next_runs (hr.mono (by decide)) (by rfl) Y.m_next_runs Y.F_next_runs.kp Y.b_next_runs (pda_cons (pd_var 1) (pda_cons (pd_callN G_code_of (hr.mono (by decide)) (by rfl) Y.m_code_of Y.F_code_of.kp Y.b_code_of (pda_cons (pd_var 0) (pda_cons (pd_var 3) pda_nil))) pda_nil)))))))
      (pdss_one (pds_ret (pd_var 2))))), fun rs kk h => ?_⟩)
  obtain ⟨x, ns, rfl, h⟩ := h
  obtain ⟨hx, hl, hn, hk⟩ := h
  obtain ⟨t, ht⟩ := hx.seq (g0 N_all_lists.length [.d x] [])
  have ei : rng 0 (((zD ns).length : Nat) : Int).toNat = (List.range ns.length).map (fun (i : Nat) => PyData.int (i : Int)) := by
    unfold rng
    rw [List.length_map, Int.toNat_natCast]
    exact List.map_congr_left fun i _ => by rw [Int.zero_add]
  refine ⟨_, rfl, _, _, _, rfl, ht, _, rfl, by rw [List.length_map]; omega, by rw [List.length_map]; omega, ?_⟩
  rw [ei]
  refine lc_map (emb := fun (i : Nat) => PyData.int (i : Int)) (fun (i : Nat) => pD ((i : Int), (i : Int))) (by rw [List.length_range]; omega) (fun q hq I1 I0 h => ?_) ?_
  · exact ⟨_, rfl, _, rfl, [.int (q : Int), .int (q : Int)], rfl, lt2, _, rfl, h⟩
  have e0 : (List.range ns.length).map (fun (i : Nat) => pD ((i : Int), (i : Int))) = psD (iniR ns.length) := by unfold iniR psD; rw [List.map_map]; rfl
  rw [e0]
  refine ⟨[], rfl, Nat.zero_le _, _, _, rfl, ?_⟩
  obtain ⟨t2, ht2⟩ := hx.seq ⟨[some (.d x), some (.d (.list (psD (iniR ns.length)))), some (.o 0), none, none], [.lst []]⟩
  refine ⟨_, rfl, _, t2, ns, rfl, ht2, _, _, rfl, rfl, ?_⟩
  -- the loop: what is left of the codes
  have bd := codes_bd ns.length ns rfl hn
  refine for_inv (emb := PyData.int) (xs := srt ns) (fun i g => ∃ (here : List (Int × Int)) (a b : Option R) (found : List (List (Int × Int))), g = ⟨[some (.d x), some (.d (.list (psD here))), some (.o 0), a, b], [.lst (found.map (fun l => .list (psD l)))]⟩ ∧ PartF 0 ((ns.length - i : Nat) : Int) here ∧ BdC (ns.length - i) ((codesM ns).drop i) ∧ found ++ goL here ((codesM ns).drop i) = listsM ns) ⟨iniR ns.length, none, none, [], rfl, iniR_part _, bd, rfl⟩ (fun i z g hz hI => ?_) (fun g hI => ?_)
  · obtain ⟨here, a, b, found, rfl, hp, hb, hf⟩ := hI
    have hi : i < ns.length := by rw [← srt_len ns]; exact (List.getElem?_eq_some_iff.mp hz).1
    have hc : (codesM ns)[i]? = some (codeI ns z) := by unfold codesM; rw [List.getElem?_map, hz]; rfl
    have hd : (codesM ns).drop i = codeI ns z :: (codesM ns).drop (i + 1) := by
      rw [List.drop_eq_getElem_cons (by rw [codes_len]; exact hi)]
      congr 1
      exact Option.some.inj ((List.getElem?_eq_getElem _).symm.trans hc)
    have lenf : found.length ≤ ns.length := by
      have z := congrArg List.length hf
      rw [List.length_append] at z
      unfold listsM at z
      rw [goL_len, goL_len, codes_len] at z
      omega
    obtain ⟨m, em⟩ : ∃ m, ns.length - i = m + 1 := ⟨ns.length - i - 1, by omega⟩
    rw [em, hd] at hb
    obtain ⟨c0, c1, hb⟩ := hb
    rw [em] at hp
    obtain ⟨A, p, B, ep, e1, e2, e3, _⟩ := runA_in hp c0 (by omega)
    have plen : here.length < 1000 := by
      have gen : ∀ (ps : List (Int × Int)) (a b : Int), PartF a b ps → (ps.length : Int) ≤ b - a := by
        intro ps
        induction ps with
        | nil => intro a b h; rw [show a = b from h]; simp
        | cons p r ih => intro a b h; have z := ih _ _ h.2.2; have z1 := h.1; have z2 := h.2.1; rw [List.length_cons]; omega
      have z := gen _ _ _ hp
      omega
    have np := nextR_part hp c0 (by omega)
    rw [show ((m + 1 : Nat) : Int) - 1 = (m : Int) by omega] at np
    refine ⟨_, rfl, ⟨_, rfl⟩, _, rfl, 0, _, .list (psD here), rfl, rfl, rfl, by rw [List.length_map]; omega, ?_⟩
    refine ⟨_, rfl, _, rfl, _, rfl, by simp [noO], x, ns, z, rfl, hx, hl, srt_mem.mp (List.mem_of_getElem? hz), by simp [noO], here, codeI ns z, rfl, plen, ⟨p, e2⟩, ?_⟩
    refine ⟨nextR here (codeI ns z), some (.d (.int z)), b, found ++ [here], by rw [List.map_append]; rfl, ?_, ?_, ?_⟩
    · rw [show ns.length - (i + 1) = m by omega]; exact np
    · rw [show ns.length - (i + 1) = m by omega]; exact hb
    · rw [← hf, hd, List.append_assoc]; rfl
  · obtain ⟨here, a, b, found, rfl, hp, hb, hf⟩ := hI
    rw [srt_len, List.drop_of_length_le (by rw [codes_len]; exact Nat.le_refl _)] at hf
    have ef : found = listsM ns := by rw [← hf]; show found = found ++ []; rw [List.append_nil]
    subst ef
    exact ⟨_, rfl, Nat.zero_le _, _, rfl, hk⟩
def C_runs (rs : List R) (k : Res → Prop) : Prop := ∃ x, ∃ ns, rs = [.d x] ∧ Sq x (zD ns) ∧ ns.length < 1000 ∧ ns.Nodup ∧ k (.dat (.tuple (psD (runsM ns))))
theorem ok_runs (Y : Fs K mg) : FnOk P w K mg base CX0 4 Y.f_runs Y.d_runs ["row"] (spN K C_runs) := by
  have G_all_lists := ok_all_lists (P := P) (w := w) (base := base) Y
  have G_code_of := ok_code_of (P := P) (w := w) (base := base) Y
  have G_run_at := ok_run_at (P := P) (w := w) (base := base) Y
  refine fnN (k := 3) Y.F_runs sc_runs (fun rs kk ⟨_, _, e, _⟩ => by rw [e]; rfl) (fun cdv A outer s H E hr => ⟨_, (pdss_cons (pds_set (i := 1) sc_runs.nd rfl (.inl rfl) (pd_callN G_all_lists (hr.mono (by decide)) (by rfl) Y.m_all_lists Y.F_all_lists.kp Y.b_all_lists (pda_cons (pd_var 0) pda_nil)))
      (pdss_one (pds_ret (pd_tuple1 rfl (by rfl) Y.m_tuple (pda_cons (pd_lc rfl sc_runs.nd (pdi_zipS2 (by rfl) Y.m_zip (pda_cons (pd_sorted (by rfl) Y.m_sorted (pda_cons (pd_var 0) pda_nil)) (pda_cons (pd_var 1) pda_nil))) (blkOk_by (own := [("height", 2), ("some", 3)]) (N := N_runs) (sc := defScope s_runs) (by decide +kernel)) (fun _ _ _ _ _ => (pdg_tup (n := 2) rfl (pdgs_cons (pdg_name (ws := [2, 3]) 2 sc_runs.nd (by decide) rfl (.inl rfl)) (pdgs_cons (pdg_name (ws := [2, 3]) 3 sc_runs.nd (by decide) rfl (.inl rfl)) pdgs_nil)))) (fun _ _ _ _ _ => pdts_nil) (fun _ _ _ _ _ => (pd_callN G_run_at (hr.mono (by decide)) (by rfl) Y.m_run_at Y.F_run_at.kp Y.b_run_at (pda_cons (pd_var 3) (pda_cons (pd_callN G_code_of (hr.mono (by decide)) (by rfl) Y.m_code_of Y.F_code_of.kp Y.b_code_of (pda_cons (pd_var 0) (pda_cons (pd_var 2) pda_nil))) pda_nil))))) pda_nil))))), fun rs kk h => ?_⟩)
  obtain ⟨x, ns, rfl, h⟩ := h
  obtain ⟨hx, hl, hn, hk⟩ := h
  obtain ⟨t2, ht2⟩ := hx.seq ⟨[some (.d x), some (.d (.list ((listsM ns).map (fun l => .list (psD l))))), none, none], []⟩
  have ll : (listsM ns).length = ns.length := by unfold listsM; rw [goL_len, codes_len]
  have ez : zip2 (zD (srt ns)) ((listsM ns).map (fun l => PyData.list (psD l))) = ((srt ns).zip (listsM ns)).map (fun q => PyData.tuple [.int q.1, .list (psD q.2)]) := by
    unfold zip2
    rw [List.zipWith_map, ← List.map_uncurry_zip_eq_zipWith]
    exact List.map_congr_left fun p _ => rfl
  have bd := codes_bd ns.length ns rfl hn
  -- each list of runs holds the code
  have gen : ∀ (n : Nat) (hs : List Int) (here : List (Int × Int)), PartF 0 n here → BdC n (hs.map (codeI ns)) → (∀ q ∈ hs.zip (goL here (hs.map (codeI ns))), q.1 ∈ hs ∧ q.2.length < n + 1 ∧ ∃ p, (q.2.filter (inRn (codeI ns q.1))).head? = some p) ∧ (hs.zip (goL here (hs.map (codeI ns)))).map (fun q => runA q.2 (codeI ns q.1)) = goR here (hs.map (codeI ns)) := by
    intro n
    induction n with
    | zero =>
      intro hs here hp hb
      cases hs with
      | nil => exact ⟨fun q hq => (by cases hq), rfl⟩
      | cons _ _ => exact hb.elim
    | succ n ih =>
      intro hs here hp hb
      cases hs with
      | nil => exact hb.elim
      | cons z hs =>
        obtain ⟨c0, c1, hb⟩ := hb
        have np := nextR_part hp c0 (by omega)
        rw [show ((n + 1 : Nat) : Int) - 1 = (n : Int) by omega] at np
        obtain ⟨h1, h2⟩ := ih hs _ np hb
        obtain ⟨A, p, B, ep, e1, e2, e3, _⟩ := runA_in hp c0 (by omega)
        have plen : ∀ (ps : List (Int × Int)) (a b : Int), PartF a b ps → (ps.length : Int) ≤ b - a := by
          intro ps
          induction ps with
          | nil => intro a b h; rw [show a = b from h]; simp
          | cons p r ih => intro a b h; have z := ih _ _ h.2.2; have z1 := h.1; have z2 := h.2.1; rw [List.length_cons]; omega
        have pl := plen _ _ _ hp
        refine ⟨fun q hq => ?_, ?_⟩
        · have hq' : q ∈ (z, here) :: hs.zip (goL (nextR here (codeI ns z)) (hs.map (codeI ns))) := hq
          rcases List.mem_cons.mp hq' with e | e
          · subst e
            exact ⟨List.mem_cons_self, by show here.length < _; omega, p, e2⟩
          · obtain ⟨g1, g2, g3⟩ := h1 q e
            exact ⟨List.mem_cons_of_mem _ g1, by omega, g3⟩
        · show runA here (codeI ns z) :: (hs.zip (goL (nextR here (codeI ns z)) (hs.map (codeI ns)))).map _ = _ :: _
          rw [h2]
  obtain ⟨g1, g2⟩ := gen ns.length (srt ns) (iniR ns.length) (iniR_part _) bd
  refine ⟨_, rfl, by simp [noO], x, ns, rfl, hx, hl, hn, _, rfl, _, t2, ns, rfl, ht2, _, rfl, _, _, _, _, _, _, rfl, rfl, rfl, by rw [List.length_map, List.length_map, srt_len, ll], ?_⟩
  rw [ez]
  refine lc_map (emb := fun (q : Int × List (Int × Int)) => PyData.tuple [.int q.1, .list (psD q.2)]) (fun q => pD (runA q.2 (codeI ns q.1))) (by rw [List.length_zip, srt_len]; omega) (fun q hq I1 I0 h => ?_) ⟨_, _, _, rfl, rfl, ?_⟩
  · obtain ⟨f1, f2, f3⟩ := g1 q hq
    exact ⟨_, rfl, rfl, _, _, rfl, _, _, rfl, rfl, _, rfl, _, rfl, _, rfl, by simp [noO], x, ns, q.1, rfl, hx, hl, srt_mem.mp f1, by simp [noO], .list (psD q.2), q.2, codeI ns q.1, rfl, sqL, by omega, f3, _, rfl, h⟩
  · have e : ((srt ns).zip (listsM ns)).map (fun q => pD (runA q.2 (codeI ns q.1))) = psD (runsM ns) := by
      unfold runsM runsC psD
      rw [codes_len]
      unfold codesM
      rw [← g2, List.map_map]
      rfl
    rw [e]; exact hk
def C_bar_of (rs : List R) (k : Res → Prop) : Prop := ∃ x, ∃ y, ∃ ns, ∃ ms, rs = [.d x, .d y] ∧ Sq x (zD ns) ∧ Sq y (zD ms) ∧ ns.length < 1000 ∧ ns.Nodup ∧ ms.Nodup ∧ ms.length = ns.length ∧ k (.dat (barD (barM ns ms)))
theorem ok_bar_of (Y : Fs K mg) : FnOk P w K mg base CX0 5 Y.f_bar_of Y.d_bar_of ["one", "other"] (spN K C_bar_of) := by
  have G_runs := ok_runs (P := P) (w := w) (base := base) Y
  refine fnN (k := 4) Y.F_bar_of sc_bar_of (fun rs kk ⟨_, _, _, _, e, _⟩ => by rw [e]; rfl) (fun cdv A outer s H E hr => ⟨_, (pdss_cons (pds_setLc (i := 2) rfl sc_bar_of.nd rfl rfl (sw_true rfl rfl rfl (by decide +kernel)) (pdi_zipS3 (by rfl) Y.m_zip (pda_cons (pd_sorted (by rfl) Y.m_sorted (pda_cons (pd_var 0) pda_nil)) (pda_cons (pd_callN G_runs (hr.mono (by decide)) (by rfl) Y.m_runs Y.F_runs.kp Y.b_runs (pda_cons (pd_var 0) pda_nil)) (pda_cons (pd_callN G_runs (hr.mono (by decide)) (by rfl) Y.m_runs Y.F_runs.kp Y.b_runs (pda_cons (pd_var 1) pda_nil)) pda_nil)))) (blkOk_by (own := [("height", 3), ("mine", 4), ("its", 5)]) (N := N_bar_of) (sc := defScope s_bar_of) (by decide +kernel)) (fun _ _ _ _ _ => (pdg_tup (n := 3) rfl (pdgs_cons (pdg_name (ws := [3, 4, 5]) 3 sc_bar_of.nd (by decide) rfl (.inl rfl)) (pdgs_cons (pdg_name (ws := [3, 4, 5]) 4 sc_bar_of.nd (by decide) rfl (.inl rfl)) (pdgs_cons (pdg_name (ws := [3, 4, 5]) 5 sc_bar_of.nd (by decide) rfl (.inl rfl)) pdgs_nil))))) (fun _ _ _ _ _ => (pdts_one (pdt_ne hr.units (pd_var 4) (pd_var 5)))) (fun _ _ _ _ _ => (pd_var 3)))
      (pdss_one (pds_ret (pd_if (pdt_gt (pd_len rfl (by rfl) Y.m_len (pda_cons (pd_var 2) pda_nil)) pd_int) (pd_ix (pd_var 2) pd_int) pd_none)))), fun rs kk h => ?_⟩)
  obtain ⟨x, y, ns, ms, rfl, h⟩ := h
  obtain ⟨hx, hy, hl, hn, hm, hlen, hk⟩ := h
  obtain ⟨t, ht⟩ := hx.seq (g0 N_bar_of.length [.d x, .d y] [])
  have l1 : (runsM ns).length = ns.length := runs_len ns
  have l2 : (runsM ms).length = ns.length := by rw [runs_len, hlen]
  have ez : zip3 (zD (srt ns)) (psD (runsM ns)) (psD (runsM ms)) = ((srt ns).zip ((runsM ns).zip (runsM ms))).map (fun q => PyData.tuple [.int q.1, pD q.2.1, pD q.2.2]) := by
    exact zip3_map _ _ _ _ _ _
  refine ⟨_, rfl, _, t, ns, rfl, ht, _, rfl, by simp [noO], x, ns, rfl, hx, hl, hn, _, rfl, by simp [noO], y, ms, rfl, hy, by omega, hm, _, _, _, _, _, _, _, _, _, rfl, rfl, rfl, rfl, by rw [List.length_map, List.length_map, srt_len, l1], by rw [List.length_map, List.length_map, srt_len, l2], ?_⟩
  rw [ez]
  refine lc_pure (emb := fun (q : Int × (Int × Int) × (Int × Int)) => PyData.tuple [.int q.1, pD q.2.1, pD q.2.2]) (fun q => !decide (q.2.1 = q.2.2)) (fun q => .int q.1) (by rw [List.length_zip, srt_len]; omega) (fun q hq I1 I0 h => ?_) ?_
  · refine ⟨_, rfl, rfl, _, _, rfl, _, _, rfl, _, _, rfl, rfl, _, rfl, _, rfl, oNe_of (n := 1) (x := pD q.2.1) (y := pD q.2.2) rfl rfl (plain_ints [_, _] 0) (plain_ints [_, _] 0) (by decide) (!decide (q.2.1 = q.2.2)) ?_ ⟨_, rfl, ite_mono h (fun _ h => ⟨_, rfl, _, rfl, h⟩) (fun _ h => h)⟩⟩
    by_cases e : q.2.1 = q.2.2
    · rw [e]; simp
    · simp only [e, decide_false, Bool.not_false, true_iff, ne_eq]
      exact fun z => e (pD_inj z)
  · refine ⟨_, rfl, _, _, _, rfl, rfl, _, _, rfl, rfl, _, rfl, ?_⟩
    unfold barM at hk
    generalize ((srt ns).zip ((runsM ns).zip (runsM ms))).filter (fun q => !decide (q.2.1 = q.2.2)) = l at hk ⊢
    cases l with
    | nil => exact hk
    | cons q l =>
      refine (if_pos ?_).mpr ?_
      · refine decide_eq_true ?_
        rw [List.map_cons, List.length_cons]
        omega
      · exact ⟨_, rfl, _, _, _, _, rfl, rfl, atI_get (i := 0) rfl, hk⟩
def C_bar (rs : List R) (k : Res → Prop) : Prop := ∃ x, ∃ y, ∃ ns, ∃ ms, rs = [.d x, .d y] ∧ Sq x (zD ns) ∧ Sq y (zD ms) ∧ ns.length < 1000 ∧ ns.Nodup ∧ ms.Nodup ∧ srt ns = srt ms ∧ k (.dat (barD (barM ns ms)))
theorem ok_bar (Y : Fs K mg) : FnOk P w K mg base CX0 6 Y.f_bar Y.d_bar ["one", "other"] (spN K C_bar) := by
  have G_bar_of := ok_bar_of (P := P) (w := w) (base := base) Y
  have G_look_same := ok_look_same (P := P) (w := w) (base := base) Y
  refine fnN (k := 5) Y.F_bar sc_bar (fun rs kk ⟨_, _, _, _, e, _⟩ => by rw [e]; rfl) (fun cdv A outer s H E hr => ⟨_, (pdss_cons (pds_expr (pd_callN G_look_same (hr.mono (by decide)) (by rfl) Y.m_look_same Y.F_look_same.kp Y.b_look_same (pda_cons (pd_var 0) (pda_cons (pd_var 1) pda_nil))))
      (pdss_one (pds_ret (pd_callN G_bar_of (hr.mono (by decide)) (by rfl) Y.m_bar_of Y.F_bar_of.kp Y.b_bar_of (pda_cons (pd_var 0) (pda_cons (pd_var 1) pda_nil)))))), fun rs kk h => ?_⟩)
  obtain ⟨x, y, ns, ms, rfl, h⟩ := h
  obtain ⟨hx, hy, hl, hn, hm, he, hk⟩ := h
  have hlen : ms.length = ns.length := by rw [← srt_len ms, ← srt_len ns, he]
  exact ⟨_, rfl, _, rfl, by simp [noO], x, y, ns, ms, rfl, hx, hy, hl, by omega, he, _, rfl, _, rfl, by simp [noO], x, y, ns, ms, rfl, hx, hy, hl, hn, hm, hlen, hk⟩
def C_leads (rs : List R) (k : Res → Prop) : Prop := ∃ x, ∃ y, ∃ ns, ∃ ms, rs = [.d x, .d y] ∧ Sq x (zD ns) ∧ Sq y (zD ms) ∧ ns.length < 1000 ∧ ns.Nodup ∧ ms.Nodup ∧ srt ns = srt ms ∧ k (.dat (.bool (barM ns ms).isNone))
theorem ok_leads (Y : Fs K mg) : FnOk P w K mg base CX0 7 Y.f_leads Y.d_leads ["one", "other"] (spN K C_leads) := by
  have G_bar := ok_bar (P := P) (w := w) (base := base) Y
  refine fnN (k := 6) Y.F_leads sc_leads (fun rs kk ⟨_, _, _, _, e, _⟩ => by rw [e]; rfl) (fun cdv A outer s H E hr => ⟨_, (pdss_one (pds_ret (pd_isN (pd_callN G_bar (hr.mono (by decide)) (by rfl) Y.m_bar Y.F_bar.kp Y.b_bar (pda_cons (pd_var 0) (pda_cons (pd_var 1) pda_nil))) pd_none))), fun rs kk h => ?_⟩)
  obtain ⟨x, y, ns, ms, rfl, h⟩ := h
  obtain ⟨hx, hy, hl, hn, hm, he, hk⟩ := h
  refine ⟨_, rfl, _, rfl, by simp [noO], x, y, ns, ms, rfl, hx, hy, hl, hn, hm, he, _, rfl, rfl, ?_⟩
  cases e : barM ns ms with
  | none => rw [e] at hk; exact hk
  | some z => rw [e] at hk; exact hk
def C_look_leads (rs : List R) (k : Res → Prop) : Prop := ∃ x, ∃ y, ∃ ns, ∃ ms, rs = [.d x, .d y] ∧ Sq x (zD ns) ∧ Sq y (zD ms) ∧ ns.length < 1000 ∧ ns.Nodup ∧ ms.Nodup ∧ srt ns = srt ms ∧ barM ns ms = none ∧ k (.dat .none)
theorem ok_look_leads (Y : Fs K mg) : FnOk P w K mg base CX0 7 Y.f_look_leads Y.d_look_leads ["one", "other"] (spN K C_look_leads) := by
  have G_bar := ok_bar (P := P) (w := w) (base := base) Y
  refine fnN (k := 6) Y.F_look_leads sc_look_leads (fun rs kk ⟨_, _, _, _, e, _⟩ => by rw [e]; rfl) (fun cdv A outer s H E hr => ⟨_, (pdss_cons (pds_set (i := 2) sc_look_leads.nd rfl (.inl rfl) (pd_callN G_bar (hr.mono (by decide)) (by rfl) Y.m_bar Y.F_bar.kp Y.b_bar (pda_cons (pd_var 0) (pda_cons (pd_var 1) pda_nil))))
      (pdss_one (pds_if (pdt_notN (pd_var 2) pd_none) (pdss_one pds_never) pdss_nil))), fun rs kk h => ?_⟩)
  obtain ⟨x, y, ns, ms, rfl, h⟩ := h
  obtain ⟨hx, hy, hl, hn, hm, he, hb, hk⟩ := h
  refine ⟨_, rfl, _, rfl, by simp [noO], x, y, ns, ms, rfl, hx, hy, hl, hn, hm, he, ?_⟩
  rw [hb]
  exact ⟨_, rfl, _, rfl, rfl, _, rfl, hk⟩
def C_differences (rs : List R) (k : Res → Prop) : Prop := ∃ x, ∃ y, ∃ ns, ∃ ms, rs = [.d x, .d y] ∧ Sq x (zD ns) ∧ Sq y (zD ms) ∧ ns.length < 1000 ∧ srt ns = srt ms ∧ k (.dat (.list ((diffsM ns ms).map triD)))
theorem ok_differences (Y : Fs K mg) : FnOk P w K mg base CX0 4 Y.f_differences Y.d_differences ["one", "other"] (spN K C_differences) := by
  have G_codes := ok_codes (P := P) (w := w) (base := base) Y
  have G_look_same := ok_look_same (P := P) (w := w) (base := base) Y
  refine fnN (k := 3) Y.F_differences sc_differences (fun rs kk ⟨_, _, _, _, e, _⟩ => by rw [e]; rfl) (fun cdv A outer s H E hr => ⟨_, (pdss_cons (pds_expr (pd_callN G_look_same (hr.mono (by decide)) (by rfl) Y.m_look_same Y.F_look_same.kp Y.b_look_same (pda_cons (pd_var 0) (pda_cons (pd_var 1) pda_nil))))
      (pdss_cons (pds_set (i := 2) sc_differences.nd rfl (.inl rfl) (pd_lzS3 rfl (by rfl) Y.m_list (by rfl) Y.m_zip (pda_cons (pd_sorted (by rfl) Y.m_sorted (pda_cons (pd_var 0) pda_nil)) (pda_cons (pd_callN G_codes (hr.mono (by decide)) (by rfl) Y.m_codes Y.F_codes.kp Y.b_codes (pda_cons (pd_var 0) pda_nil)) (pda_cons (pd_callN G_codes (hr.mono (by decide)) (by rfl) Y.m_codes Y.F_codes.kp Y.b_codes (pda_cons (pd_var 1) pda_nil)) pda_nil)))))
      (pdss_one (pds_ret (pd_lc rfl sc_differences.nd (pdi_seq (pd_var 2)) (blkOk_by (own := [("height", 3), ("mine", 4), ("its", 5)]) (N := N_differences) (sc := defScope s_differences) (by decide +kernel)) (fun _ _ _ _ _ => (pdg_tup (n := 3) rfl (pdgs_cons (pdg_name (ws := [3, 4, 5]) 3 sc_differences.nd (by decide) rfl (.inl rfl)) (pdgs_cons (pdg_name (ws := [3, 4, 5]) 4 sc_differences.nd (by decide) rfl (.inl rfl)) (pdgs_cons (pdg_name (ws := [3, 4, 5]) 5 sc_differences.nd (by decide) rfl (.inl rfl)) pdgs_nil))))) (fun _ _ _ _ _ => (pdts_one (pdt_ne hr.units (pd_var 4) (pd_var 5)))) (fun _ _ _ _ _ => (pd_tup (pda_cons (pd_var 3) (pda_cons (pd_var 4) (pda_cons (pd_var 5) pda_nil)))))))))), fun rs kk h => ?_⟩)
  obtain ⟨x, y, ns, ms, rfl, h⟩ := h
  obtain ⟨hx, hy, hl, he, hk⟩ := h
  obtain ⟨t, ht⟩ := hx.seqA
  have hlen : ms.length = ns.length := by rw [← srt_len ms, ← srt_len ns, he]
  refine ⟨_, rfl, _, rfl, by simp [noO], x, y, ns, ms, rfl, hx, hy, hl, by omega, he, _, rfl, _, t, ns, rfl, ht _, _, rfl, by simp [noO], x, ns, rfl, hx, hl, _, rfl, by simp [noO], y, ms, rfl, hy, by omega, _, _, _, _, _, _, _, _, _, rfl, rfl, rfl, rfl, by rw [List.length_map, List.length_map, srt_len, codes_len], by rw [List.length_map, List.length_map, srt_len, codes_len]; exact hlen, ?_⟩
  refine ⟨_, rfl, _, _, rfl, rfl, ?_⟩
  rw [zip3_map]
  refine lc_pure (emb := fun (q : Int × Int × Int) => PyData.tuple [.int q.1, .int q.2.1, .int q.2.2]) (fun q => !decide (q.2.1 = q.2.2)) triD (by rw [List.length_zip, srt_len]; omega) (fun q hq I1 I0 h => ?_) hk
  refine ⟨_, rfl, rfl, _, _, rfl, _, _, rfl, _, _, rfl, rfl, _, rfl, _, rfl, oNe_of (n := 1) (x := .int q.2.1) (y := .int q.2.2) rfl rfl rfl rfl (by decide) (!decide (q.2.1 = q.2.2)) (by simp) ⟨_, rfl, ite_mono h (fun _ h => ⟨_, rfl, _, rfl, _, rfl, [.int q.1, .int q.2.1, .int q.2.2], rfl, lt3, _, rfl, h⟩) (fun _ h => h)⟩⟩
def C_steps (rs : List R) (k : Res → Prop) : Prop := ∃ x, ∃ y, ∃ ns, ∃ ms, rs = [.d x, .d y] ∧ Sq x (zD ns) ∧ Sq y (zD ms) ∧ ns.length < 1000 ∧ ns.Nodup ∧ ms.Nodup ∧ srt ns = srt ms ∧ barM ns ms = none ∧ k (.dat (.int (stepsM ns ms)))
theorem ok_steps (Y : Fs K mg) : FnOk P w K mg base CX0 8 Y.f_steps Y.d_steps ["one", "other"] (spN K C_steps) := by
  have G_differences := ok_differences (P := P) (w := w) (base := base) Y
  have G_look_leads := ok_look_leads (P := P) (w := w) (base := base) Y
  refine fnN (k := 7) Y.F_steps sc_steps (fun rs kk ⟨_, _, _, _, e, _⟩ => by rw [e]; rfl) (fun cdv A outer s H E hr => ⟨_, (pdss_cons (pds_expr (pd_callN G_look_leads (hr.mono (by decide)) (by rfl) Y.m_look_leads Y.F_look_leads.kp Y.b_look_leads (pda_cons (pd_var 0) (pda_cons (pd_var 1) pda_nil))))
      (pdss_one (pds_ret (pd_sum1 rfl (by rfl) Y.m_sum (pda_cons (pd_lc rfl sc_steps.nd (pdi_seq (pd_callN G_differences (hr.mono (by decide)) (by rfl) Y.m_differences Y.F_differences.kp Y.b_differences (pda_cons (pd_var 0) (pda_cons (pd_var 1) pda_nil)))) (blkOk_by (own := [("height", 2), ("mine", 3), ("its", 4)]) (N := N_steps) (sc := defScope s_steps) (by decide +kernel)) (fun _ _ _ _ _ => (pdg_tup (n := 3) rfl (pdgs_cons (pdg_name (ws := [2, 3, 4]) 2 sc_steps.nd (by decide) rfl (.inl rfl)) (pdgs_cons (pdg_name (ws := [2, 3, 4]) 3 sc_steps.nd (by decide) rfl (.inl rfl)) (pdgs_cons (pdg_name (ws := [2, 3, 4]) 4 sc_steps.nd (by decide) rfl (.inl rfl)) pdgs_nil))))) (fun _ _ _ _ _ => pdts_nil) (fun _ _ _ _ _ => (pd_abs rfl (by rfl) Y.m_abs (pda_cons (pd_sub (pd_var 3) (pd_var 4)) pda_nil)))) pda_nil))))), fun rs kk h => ?_⟩)
  obtain ⟨x, y, ns, ms, rfl, h⟩ := h
  obtain ⟨hx, hy, hl, hn, hm, he, hb, hk⟩ := h
  refine ⟨_, rfl, _, rfl, by simp [noO], x, y, ns, ms, rfl, hx, hy, hl, hn, hm, he, hb, _, rfl, _, rfl, by simp [noO], x, y, ns, ms, rfl, hx, hy, hl, he, _, _, rfl, rfl, ?_⟩
  have ld : (diffsM ns ms).length ≤ 100000 := by
    unfold diffsM
    have z := List.length_filter_le (fun q => !decide (q.2.1 = q.2.2)) ((srt ns).zip ((codesM ns).zip (codesM ms)))
    rw [List.length_zip, srt_len] at z
    omega
  refine lc_map (emb := triD) (fun (q : Int × Int × Int) => .int (absI (q.2.1 - q.2.2))) ld (fun q hq I1 I0 h => ?_) ⟨_, (diffsM ns ms).map (fun (q : Int × Int × Int) => absI (q.2.1 - q.2.2)), rfl, by rw [List.map_map]; rfl, hk⟩
  exact ⟨_, rfl, rfl, _, _, rfl, _, _, rfl, _, _, rfl, rfl, _, rfl, _, rfl, _, _, rfl, rfl, _, rfl, _, rfl, h⟩
def C_count_rows (rs : List R) (k : Res → Prop) : Prop := ∃ x, ∃ ns, rs = [.d x] ∧ Sq x (zD ns) ∧ ns.length < 1000 ∧ ns.Nodup ∧ k (.dat (.int (cntM (runsM ns))))
theorem ok_count_rows (Y : Fs K mg) : FnOk P w K mg base CX0 5 Y.f_count_rows Y.d_count_rows ["row"] (spN K C_count_rows) := by
  have G_runs := ok_runs (P := P) (w := w) (base := base) Y
  refine fnN (k := 4) Y.F_count_rows sc_count_rows (fun rs kk ⟨_, _, e, _⟩ => by rw [e]; rfl) (fun cdv A outer s H E hr => ⟨_, (pdss_cons (pds_set (i := 1) sc_count_rows.nd rfl (.inl rfl) pd_int)
      (pdss_cons (pds_for PassesOwn.never rfl (pdi_seq (pd_callN G_runs (hr.mono (by decide)) (by rfl) Y.m_runs Y.F_runs.kp Y.b_runs (pda_cons (pd_var 0) pda_nil))) (pdg_tup (n := 2) rfl (pdgs_cons (pdg_name (ws := [2, 3]) 2 sc_count_rows.nd (by decide) rfl (.inl rfl)) (pdgs_cons (pdg_name (ws := [2, 3]) 3 sc_count_rows.nd (by decide) rfl (.inl rfl)) pdgs_nil))) (pdss_one (pds_augMul (i := 1) sc_count_rows.nd rfl (.inl rfl) (pd_add (pd_sub (pd_var 3) (pd_var 2)) pd_int))))
      (pdss_one (pds_ret (pd_var 1))))), fun rs kk h => ?_⟩)
  obtain ⟨x, ns, rfl, h⟩ := h
  obtain ⟨hx, hl, hn, hk⟩ := h
  refine ⟨_, rfl, by simp [noO], x, ns, rfl, hx, hl, hn, _, _, rfl, rfl, ?_⟩
  refine for_inv (emb := pD) (xs := runsM ns) (fun i g => ∃ a b, g = ⟨[some (.d x), some (.d (.int (cntM ((runsM ns).take i)))), a, b], []⟩) ⟨none, none, rfl⟩ (fun i p g hp hI => ?_) (fun g hI => ?_)
  · obtain ⟨a, b, rfl⟩ := hI
    have pb := runs_at hn hp
    refine ⟨_, rfl, rfl, _, _, rfl, _, _, rfl, rfl, _, rfl, _, rfl, _, rfl, _, _, rfl, rfl, _, _, rfl, rfl, _, rfl, .inr ⟨by omega, by omega⟩, some (.d (.int p.1)), some (.d (.int p.2)), ?_⟩
    rw [List.take_add_one, hp]
    unfold cntM
    rw [List.foldl_append]
    rfl
  · obtain ⟨a, b, rfl⟩ := hI
    rw [List.take_length]
    exact ⟨_, rfl, hk⟩
def C_law_cell_at (rs : List R) (k : Res → Prop) : Prop := ∃ ns, ∃ (j : Nat), rs = [.s ns, .d (.int j)] ∧ k (.dat (.int (ns.getD j 0)))
theorem ok_law_cell_at (Y : Fs K mg) : FnOk P w K mg base CX0 1 Y.f_law_cell_at Y.d_law_cell_at ["_law_script", "_law_k"] (spN K C_law_cell_at) := by
  refine fnN (k := 0) Y.F_law_cell_at sc_law_cell_at (fun rs kk ⟨_, _, e, _⟩ => by rw [e]; rfl) (fun cdv A outer s H E hr => ⟨_, (pdss_cons (pds_if (pdt_lt (pd_var 1) (pd_len rfl (by rfl) Y.m_len (pda_cons (pd_var 0) pda_nil))) (pdss_one (pds_ret (pd_ix (pd_var 0) (pd_var 1)))) pdss_nil)
      (pdss_one (pds_ret pd_int))), fun rs kk h => ?_⟩)
  obtain ⟨ns, j, rfl, h⟩ := h
  refine ⟨_, rfl, _, rfl, _, _, _, rfl, rfl, _, _, rfl, rfl, _, rfl, ?_⟩
  by_cases c : j < ns.length
  · refine (if_pos (decide_eq_true (by rw [List.length_map]; omega))).mpr ?_
    refine ⟨_, rfl, _, rfl, _, _, _, .int (ns.getD j 0), rfl, rfl, atI_get ?_, h⟩
    rw [List.getElem?_map, List.getD_eq_getElem?_getD, List.getElem?_eq_getElem c]
    rfl
  · refine (if_neg (fun z => c (by have := of_decide_eq_true z; rw [List.length_map] at this; omega))).mpr ?_
    rw [List.getD_eq_getElem?_getD, List.getElem?_eq_none (by omega)] at h
    exact h
def C_law_box (rs : List R) (k : Res → Prop) : Prop := ∃ ns, ∃ (j : Nat), rs = [.s ns, .d (.int j)] ∧ j < 64 ∧ ∀ bx, BoxOk 0 bx → k (.new bx)
theorem ok_law_box (Y : Fs K mg) : FnOk P w K mg base CX0 2 Y.f_law_box Y.d_law_box ["_law_script", "_law_k"] (spN K C_law_box) := by
  have G_law_cell_at := ok_law_cell_at (P := P) (w := w) (base := base) Y
  refine fnN (k := 1) Y.F_law_box sc_law_box (fun rs kk ⟨_, _, e, _⟩ => by rw [e]; rfl) (fun cdv A outer s H E hr => ⟨_, (pdss_cons (pds_set (i := 2) sc_law_box.nd rfl (.inl rfl) (pd_callN G_law_cell_at (hr.mono (by decide)) (by rfl) Y.m_law_cell_at Y.F_law_cell_at.kp Y.b_law_cell_at (pda_cons (pd_var 0) (pda_cons (pd_var 1) pda_nil))))
      (pdss_one (pds_ret (pd_lstO (pda_cons (pd_mul (pd_abs rfl (by rfl) Y.m_abs (pda_cons (pd_var 2) pda_nil)) (pd_int1 rfl (by rfl) Y.m_int (pda_cons (pd_ge (pd_abs rfl (by rfl) Y.m_abs (pda_cons (pd_var 2) pda_nil)) (pd_pow pd_int pd_int)) pda_nil))) (pda_cons (pd_add (pd_add (pd_mod (pd_var 2) pd_int) (pd_mul pd_int (pd_var 1))) pd_int) (pda_cons pd_int pda_nil))))))), fun rs kk h => ?_⟩)
  obtain ⟨ns, j, rfl, h⟩ := h
  obtain ⟨hj, hk⟩ := h
  have hk := hk (boxM (ns.getD j 0) j) (boxM_ok _ _ hj)
  unfold boxM at hk
  refine ⟨_, rfl, _, rfl, by simp [noO], ns, j, rfl, ?_⟩
  refine ⟨_, rfl, _, rfl, _, rfl, _, rfl, _, _, rfl, rfl, ⟨by decide, by decide, by decide⟩, _, _, rfl, rfl, _, rfl, _, _, rfl, rfl, .inr (bit01 _), ?_⟩
  refine ⟨_, rfl, _, _, rfl, rfl, (by show (0 : Int) < _; decide), _, rfl, _, _, rfl, rfl, .inl ⟨by decide, by decide⟩, _, _, rfl, rfl, _, _, rfl, rfl, [_, _, _], rfl, lt3, ?_⟩
  exact ⟨Nat.zero_le _, _, rfl, hk⟩
def C_law_take0 (bx : List PyData) (rs : List R) (k : Res → List PyData → Prop) : Prop := ∃ (n : Nat), ∃ (b : Int), rs = [.d (.int b)] ∧ BoxOk n bx ∧ n < 2000000000 ∧ 0 < b ∧ b ≤ 10 ^ 7 ∧ ∀ r bx', 0 ≤ r → r < b → BoxOk (n + 1) bx' → k (.dat (.int r)) bx'
theorem ok_law_take0 (Y : Fs K mg) : FnOk P w K mg base CX0 1 Y.f_law_take Y.d_law_take ["_law_box_here", "_law_below"] (spB K C_law_take0) := by
  refine fnB (k := 0) Y.F_law_take sc_law_take (fun bx rs kk ⟨_, _, e, _⟩ => by rw [e]; rfl) (fun cdv A outer s H E hr => ⟨_, (pdss_cons (pds_if (pdt_gt (pd_ix (pd_var 0) pd_int) pd_int) (pdss_cons (pds_set (i := 2) sc_law_take.nd rfl (.inl rfl) (pd_mod (pd_ix (pd_var 0) pd_int) (pd_var 1)))
      (pdss_cons (pds_asg (pd_div (pd_ix (pd_var 0) pd_int) (pd_var 1)) (pdg_subL (ws := []) (pd_var 0) pd_int))
      (pdss_one (pds_ret (pd_var 2))))) pdss_nil)
      (pdss_cons (pds_if (pdt_gt (pd_var 1) (pd_pow pd_int pd_int)) pdss_never pdss_nil)
      (pdss_cons (pds_asg (pd_add (pd_ix (pd_var 0) pd_int) pd_int) (pdg_subL (ws := []) (pd_var 0) pd_int))
      (pdss_cons (pds_set (i := 3) sc_law_take.nd rfl (.inl rfl) (pd_mod (pd_mul (pd_add (pd_ix (pd_var 0) pd_int) (pd_mul pd_int (pd_ix (pd_var 0) pd_int))) (pd_add pd_int (pd_ix (pd_var 0) pd_int))) pd_int))
      (pdss_cons (pds_set (i := 4) sc_law_take.nd rfl (.inl rfl) (pd_mod (pd_mul (pd_add (pd_add (pd_var 3) (pd_ix (pd_var 0) pd_int)) (pd_div (pd_ix (pd_var 0) pd_int) pd_int)) (pd_add (pd_mod (pd_var 3) pd_int) pd_int)) pd_int))
      (pdss_one (pds_ret (pd_mod (pd_div (pd_mod (pd_add (pd_mul (pd_var 4) pd_int) (pd_var 3)) pd_int) pd_int) (pd_var 1))))))))), fun bx rs kk h => ?_⟩)
  obtain ⟨n, b, rfl, h⟩ := h
  obtain ⟨⟨a, bb, c, rfl, h1, h2, h3, h4, h5⟩, hn, hb0, hb1, hk⟩ := h
  have cd : CDivW a b := ⟨hb0, log_small hb0 (Int.le_trans hb1 (by decide))⟩
  refine ⟨_, rfl, _, _, _, .int a, rfl, rfl, rfl, _, _, rfl, rfl, _, rfl, ?_⟩
  by_cases ca : 0 < a
  · refine (if_pos (decide_eq_true ca)).mpr ?_
    refine ⟨_, rfl, _, _, _, .int a, rfl, rfl, rfl, _, rfl, _, _, rfl, rfl, hb0, ?_⟩
    refine ⟨_, rfl, _, _, _, .int a, rfl, rfl, rfl, _, rfl, _, _, rfl, rfl, cd, _, rfl, 0, _, _, _, _, rfl, rfl, rfl, rfl, rfl, ?_⟩
    refine ⟨_, rfl, _, rfl, hk _ _ (Int.emod_nonneg _ (by omega)) (Int.emod_lt_of_pos _ hb0) ?_⟩
    exact ⟨a / b, bb, c, rfl, Int.ediv_nonneg h1 (by omega), h2, h3, h4, by omega⟩
  refine (if_neg (fun z => ca (of_decide_eq_true z))).mpr ?_
  refine ⟨_, rfl, _, _, rfl, rfl, ⟨by decide, by decide, by decide⟩, _, _, rfl, rfl, _, rfl, ?_⟩
  refine (if_neg (fun z => by have q := of_decide_eq_true z; have e7 : (10 : Int) ^ (7 : Int).toNat = 10 ^ 7 := rfl; omega)).mpr ?_
  refine ⟨_, rfl, _, _, _, .int c, rfl, rfl, rfl, _, _, rfl, rfl, _, rfl, 0, _, _, _, _, rfl, rfl, rfl, rfl, rfl, ?_⟩
  refine ⟨_, rfl, _, _, _, .int bb, rfl, rfl, rfl, _, rfl, _, _, _, .int (c + 1), rfl, rfl, rfl, _, _, rfl, rfl, .inl ⟨by decide, by decide⟩, _, _, rfl, rfl, _, rfl, _, _, _, .int (c + 1), rfl, rfl, rfl, _, _, rfl, rfl, _, _, rfl, rfl, .inr ⟨by omega, by omega⟩, _, _, rfl, rfl, (by show (0 : Int) < _; decide), ?_⟩
  refine ⟨_, rfl, _, rfl, _, _, _, .int (c + 1), rfl, rfl, rfl, _, _, rfl, rfl, _, rfl, _, _, _, .int bb, rfl, rfl, rfl, _, _, rfl, rfl, ⟨by decide, by decide +kernel⟩, _, _, rfl, rfl, _, rfl, _, _, rfl, rfl, (by show (0 : Int) < _; decide), _, _, rfl, rfl, _, _, rfl, rfl, .inr (mod_small _ (by decide) ⟨by decide, by decide⟩), _, _, rfl, rfl, (by show (0 : Int) < _; decide), ?_⟩
  refine ⟨_, rfl, _, _, rfl, rfl, .inr ⟨by decide, by decide⟩, _, rfl, _, _, rfl, rfl, _, _, rfl, rfl, (by show (0 : Int) < _; decide), _, _, rfl, rfl, ⟨by decide, by decide +kernel⟩, _, rfl, _, _, rfl, rfl, hb0, _, rfl, hk _ _ (Int.emod_nonneg _ (by omega)) (Int.emod_lt_of_pos _ hb0) ?_⟩
  exact ⟨a, bb, c + 1, rfl, h1, h2, h3, by omega, by omega⟩
def C_law_take (bx : List PyData) (rs : List R) (k : Res → List PyData → Prop) : Prop := ∃ (n : Nat), ∃ (b : Int), rs = [.d (.int b)] ∧ BoxOk n bx ∧ n < 1000000000 ∧ 0 < b ∧ b ≤ 10 ^ 13 ∧ ∀ r bx', 0 ≤ r → r < b → BoxOk (n + 2) bx' → k (.dat (.int r)) bx'
theorem ok_law_take (Y : Fs K mg) : FnOk P w K mg base CX0 2 Y.f_law_take Y.d_law_take ["_law_box_here", "_law_below"] (spB K C_law_take) := by
  have G_law_take := ok_law_take0 (P := P) (w := w) (base := base) Y
  refine fnB (k := 1) Y.F_law_take sc_law_take (fun bx rs kk ⟨_, _, e, _⟩ => by rw [e]; rfl) (fun cdv A outer s H E hr => ⟨_, (pdss_cons (pds_if (pdt_gt (pd_ix (pd_var 0) pd_int) pd_int) (pdss_cons (pds_set (i := 2) sc_law_take.nd rfl (.inl rfl) (pd_mod (pd_ix (pd_var 0) pd_int) (pd_var 1)))
      (pdss_cons (pds_asg (pd_div (pd_ix (pd_var 0) pd_int) (pd_var 1)) (pdg_subL (ws := []) (pd_var 0) pd_int))
      (pdss_one (pds_ret (pd_var 2))))) pdss_nil)
      (pdss_cons (pds_if (pdt_gt (pd_var 1) (pd_pow pd_int pd_int)) (pdss_one (pds_ret (pd_mod (pd_add (pd_callBx G_law_take (hr.mono (by decide)) (by rfl) Y.m_law_take Y.F_law_take.kp Y.b_law_take (pda_cons (pd_var 0) (pda_cons (pd_pow pd_int pd_int) pda_nil))) (pd_mul (pd_pow pd_int pd_int) (pd_callBx G_law_take (hr.mono (by decide)) (by rfl) Y.m_law_take Y.F_law_take.kp Y.b_law_take (pda_cons (pd_var 0) (pda_cons (pd_add (pd_div (pd_var 1) (pd_pow pd_int pd_int)) pd_int) pda_nil))))) (pd_var 1)))) pdss_nil)
      (pdss_cons (pds_asg (pd_add (pd_ix (pd_var 0) pd_int) pd_int) (pdg_subL (ws := []) (pd_var 0) pd_int))
      (pdss_cons (pds_set (i := 3) sc_law_take.nd rfl (.inl rfl) (pd_mod (pd_mul (pd_add (pd_ix (pd_var 0) pd_int) (pd_mul pd_int (pd_ix (pd_var 0) pd_int))) (pd_add pd_int (pd_ix (pd_var 0) pd_int))) pd_int))
      (pdss_cons (pds_set (i := 4) sc_law_take.nd rfl (.inl rfl) (pd_mod (pd_mul (pd_add (pd_add (pd_var 3) (pd_ix (pd_var 0) pd_int)) (pd_div (pd_ix (pd_var 0) pd_int) pd_int)) (pd_add (pd_mod (pd_var 3) pd_int) pd_int)) pd_int))
      (pdss_one (pds_ret (pd_mod (pd_div (pd_mod (pd_add (pd_mul (pd_var 4) pd_int) (pd_var 3)) pd_int) pd_int) (pd_var 1))))))))), fun bx rs kk h => ?_⟩)
  obtain ⟨n, b, rfl, h⟩ := h
  obtain ⟨⟨a, bb, c, rfl, h1, h2, h3, h4, h5⟩, hn, hb0, hb1, hk⟩ := h
  have cd : CDivW a b := ⟨hb0, log_small hb0 (Int.le_trans hb1 (by decide))⟩
  refine ⟨_, rfl, _, _, _, .int a, rfl, rfl, rfl, _, _, rfl, rfl, _, rfl, ?_⟩
  by_cases ca : 0 < a
  · refine (if_pos (decide_eq_true ca)).mpr ?_
    refine ⟨_, rfl, _, _, _, .int a, rfl, rfl, rfl, _, rfl, _, _, rfl, rfl, hb0, ?_⟩
    refine ⟨_, rfl, _, _, _, .int a, rfl, rfl, rfl, _, rfl, _, _, rfl, rfl, cd, _, rfl, 0, _, _, _, _, rfl, rfl, rfl, rfl, rfl, ?_⟩
    refine ⟨_, rfl, _, rfl, hk _ _ (Int.emod_nonneg _ (by omega)) (Int.emod_lt_of_pos _ hb0) ?_⟩
    exact ⟨a / b, bb, c, rfl, Int.ediv_nonneg h1 (by omega), h2, h3, h4, by omega⟩
  refine (if_neg (fun z => ca (of_decide_eq_true z))).mpr ?_
  refine ⟨_, rfl, _, _, rfl, rfl, ⟨by decide, by decide, by decide⟩, _, _, rfl, rfl, _, rfl, ?_⟩
  by_cases cb : (10 : Int) ^ (7 : Int).toNat < b
  · refine (if_pos (decide_eq_true cb)).mpr ?_
    have e7 : (10 : Int) ^ (7 : Int).toNat = 10 ^ 7 := rfl
    have pw : CPow 10 7 := ⟨by decide, by decide, by decide⟩
    have d7 : CDivW b ((10 : Int) ^ (7 : Int).toNat) := ⟨by decide, by decide +kernel⟩
    have q0 : 0 ≤ b / (10 : Int) ^ (7 : Int).toNat := Int.ediv_nonneg (by omega) (by decide)
    have q1 : b / (10 : Int) ^ (7 : Int).toNat + 1 ≤ 10 ^ 7 := by
      have z : b / (10 : Int) ^ 7 ≤ 10 ^ 6 := Int.ediv_le_of_le_mul (by decide) (by omega)
      rw [e7]; omega
    refine ⟨_, rfl, _, _, rfl, rfl, pw, 0, _, _, rfl, by simp [noO], rfl, n, _, rfl, ⟨a, bb, c, rfl, h1, h2, h3, h4, h5⟩, by omega, by decide, by decide, fun r bx' r0 r1 hbx => ?_⟩
    refine ⟨_, _, rfl, rfl, pw, _, rfl, _, rfl, _, _, rfl, rfl, pw, _, _, rfl, rfl, d7, _, _, rfl, rfl, 0, _, _, rfl, by simp [noO], rfl, n + 1, _, rfl, hbx, by omega, by omega, q1, fun r2 bx2 r20 r21 hbx2 => ?_⟩
    exact ⟨_, _, rfl, rfl, .inl ⟨by decide, by decide⟩, _, _, rfl, rfl, _, rfl, _, _, rfl, rfl, hb0, _, rfl, hk _ _ (Int.emod_nonneg _ (by omega)) (Int.emod_lt_of_pos _ hb0) hbx2⟩
  refine (if_neg (fun z => cb (of_decide_eq_true z))).mpr ?_
  refine ⟨_, rfl, _, _, _, .int c, rfl, rfl, rfl, _, _, rfl, rfl, _, rfl, 0, _, _, _, _, rfl, rfl, rfl, rfl, rfl, ?_⟩
  refine ⟨_, rfl, _, _, _, .int bb, rfl, rfl, rfl, _, rfl, _, _, _, .int (c + 1), rfl, rfl, rfl, _, _, rfl, rfl, .inl ⟨by decide, by decide⟩, _, _, rfl, rfl, _, rfl, _, _, _, .int (c + 1), rfl, rfl, rfl, _, _, rfl, rfl, _, _, rfl, rfl, .inr ⟨by omega, by omega⟩, _, _, rfl, rfl, (by show (0 : Int) < _; decide), ?_⟩
  refine ⟨_, rfl, _, rfl, _, _, _, .int (c + 1), rfl, rfl, rfl, _, _, rfl, rfl, _, rfl, _, _, _, .int bb, rfl, rfl, rfl, _, _, rfl, rfl, ⟨by decide, by decide +kernel⟩, _, _, rfl, rfl, _, rfl, _, _, rfl, rfl, (by show (0 : Int) < _; decide), _, _, rfl, rfl, _, _, rfl, rfl, .inr (mod_small _ (by decide) ⟨by decide, by decide⟩), _, _, rfl, rfl, (by show (0 : Int) < _; decide), ?_⟩
  refine ⟨_, rfl, _, _, rfl, rfl, .inr ⟨by decide, by decide⟩, _, rfl, _, _, rfl, rfl, _, _, rfl, rfl, (by show (0 : Int) < _; decide), _, _, rfl, rfl, ⟨by decide, by decide +kernel⟩, _, rfl, _, _, rfl, rfl, hb0, _, rfl, hk _ _ (Int.emod_nonneg _ (by omega)) (Int.emod_lt_of_pos _ hb0) ?_⟩
  exact ⟨a, bb, c + 1, rfl, h1, h2, h3, by omega, by omega⟩
def C_law_of (bx : List PyData) (rs : List R) (k : Res → List PyData → Prop) : Prop := ∃ (n : Nat), ∃ x, ∃ ds, rs = [.d x] ∧ BoxOk n bx ∧ n < 1000000000 ∧ Sq x ds ∧ 0 < ds.length ∧ ds.length ≤ 1000000 ∧ ∀ d bx', d ∈ ds → BoxOk (n + 2) bx' → k (.dat d) bx'
theorem ok_law_of (Y : Fs K mg) : FnOk P w K mg base CX0 3 Y.f_law_of Y.d_law_of ["_law_box_here", "_law_some"] (spB K C_law_of) := by
  have G_law_take := ok_law_take (P := P) (w := w) (base := base) Y
  refine fnB (k := 2) Y.F_law_of sc_law_of (fun bx rs kk ⟨_, _, _, e, _⟩ => by rw [e]; rfl) (fun cdv A outer s H E hr => ⟨_, (pdss_one (pds_ret (pd_ix (pd_var 1) (pd_callBx G_law_take (hr.mono (by decide)) (by rfl) Y.m_law_take Y.F_law_take.kp Y.b_law_take (pda_cons (pd_var 0) (pda_cons (pd_len rfl (by rfl) Y.m_len (pda_cons (pd_var 1) pda_nil)) pda_nil)))))), fun bx rs kk h => ?_⟩)
  obtain ⟨n, x, ds, rfl, h⟩ := h
  obtain ⟨hb, hn, hx, h0, h1, hk⟩ := h
  obtain ⟨t, ht⟩ := hx.seqA
  refine ⟨_, rfl, _, rfl, _, rfl, _, t, ds, rfl, ht _, 0, _, _, rfl, by simp [noO], rfl, n, _, rfl, hb, hn, by omega, by omega, fun r bx' r0 r1 hb' => ?_⟩
  obtain ⟨d, hd, _, ha⟩ := atI_int r0 r1
  exact ⟨t, ds, r, d, ht _, rfl, ha, _, rfl, hk d bx' hd hb'⟩
def C_law_strewn (bx : List PyData) (rs : List R) (k : Res → List PyData → Prop) : Prop := ∃ (n : Nat), ∃ x, ∃ ds, rs = [.d x] ∧ BoxOk n bx ∧ n + 2 * ds.length < 1000000000 ∧ Sq x ds ∧ ds.length ≤ 10000 ∧ ds.all (plain 5) = true ∧ ∀ es bx', es.Perm ds → BoxOk (n + 2 * ds.length) bx' → k (.new es) bx'
theorem ok_law_strewn (Y : Fs K mg) : FnOk P w K mg base CX0 3 Y.f_law_strewn Y.d_law_strewn ["_law_box_here", "_law_some"] (spB K C_law_strewn) := by
  have G_law_take := ok_law_take (P := P) (w := w) (base := base) Y
  refine fnB (k := 2) Y.F_law_strewn sc_law_strewn (fun bx rs kk ⟨_, _, _, e, _⟩ => by rw [e]; rfl) (fun cdv A outer s H E hr => ⟨_, (pdss_cons (pds_par (i := 2) (j := 3) rfl sc_law_strewn.nd rfl rfl (by decide) rfl rfl (pda_cons (pd_list1O rfl (by rfl) Y.m_list (pda_cons (pd_var 1) pda_nil)) (pda_cons (pd_lstO pda_nil) pda_nil)) (by rfl))
      (pdss_cons (pds_while PassesOwn.never (pdt_ne hr.units (pd_var 2) (pd_lst pda_nil)) (pdss_one (pds_expr (pd_append (pd_var 3) (pda_cons (pd_popAt (pd_var 2) (pda_cons (pd_callBx G_law_take (hr.mono (by decide)) (by rfl) Y.m_law_take Y.F_law_take.kp Y.b_law_take (pda_cons (pd_var 0) (pda_cons (pd_len rfl (by rfl) Y.m_len (pda_cons (pd_var 2) pda_nil)) pda_nil))) pda_nil)) pda_nil)))))
      (pdss_one (pds_ret (pd_var 3))))), fun bx rs kk h => ?_⟩)
  obtain ⟨n, x, ds, rfl, h⟩ := h
  obtain ⟨hb, hn, hx, h1, hp, hk⟩ := h
  obtain ⟨t, ht⟩ := hx.seqA
  refine ⟨_, rfl, _, t, ds, rfl, ht _, [], rfl, Nat.zero_le _, _, _, rfl, ?_⟩
  refine ⟨fun m g => ∃ bx' l f, g = ⟨[some (.o 0), some (.d x), some (.o 1), some (.o 2)], [.lst bx', .lst l, .lst f]⟩ ∧ l.length = m ∧ (f ++ l).Perm ds ∧ BoxOk (n + 2 * (ds.length - m)) bx', ⟨ds.length, bx, ds, [], rfl, rfl, List.Perm.refl _, by rw [Nat.sub_self]; exact hb⟩, ?_⟩
  rintro m g ⟨bx', l, f, rfl, rfl, pr, hb'⟩
  have lf : f.length + l.length = ds.length := by rw [← List.length_append]; exact pr.length_eq
  have pl : l.all (plain 5) = true := List.all_eq_true.mpr fun d hd => List.all_eq_true.mp hp d (pr.mem_iff.mp (List.mem_append_right _ hd))
  refine ⟨_, rfl, [], rfl, Nat.zero_le _, oNe_of (n := 6) (x := .list l) (y := .list []) rfl rfl pl rfl (by decide) (!l.isEmpty) ?_ ⟨_, rfl, ?_⟩⟩
  · cases l <;> simp
  cases hl : l with
  | nil =>
    subst hl
    rw [List.append_nil] at pr
    exact ⟨_, rfl, _, rfl, by decide, _, rfl, hk f bx' pr (hb'.mono (by simp))⟩
  | cons l0 l1 =>
    rw [← hl]
    have l0 : 0 < l.length := by rw [hl]; exact Nat.succ_pos _
    refine (if_pos (by rw [hl]; rfl)).mpr ?_
    refine ⟨_, rfl, ⟨_, rfl⟩, _, rfl, ⟨_, rfl⟩, _, rfl, _, rfl, _, _, _, rfl, rfl, 0, _, _, rfl, by simp [noO], rfl, _, _, rfl, hb', by omega, by omega, by omega, fun r bx2 r0 r1 hb2 => ?_⟩
    obtain ⟨d, hd, hg, _⟩ := atI_int r0 r1
    refine ⟨1, l, r, r.toNat, d, rfl, rfl, rfl, by omega, by omega, seqIx r0 r1, hg, 2, f, d, rfl, rfl, rfl, by omega, l.length - 1, by omega, bx2, l.eraseIdx r.toNat, f ++ [d], rfl, ?_, perm_pop pr hg, hb2.mono (by omega)⟩
    rw [List.length_eraseIdx_of_lt (by omega)]
def C_law_souls (bx : List PyData) (rs : List R) (k : Res → List PyData → Prop) : Prop := ∃ (n : Nat), ∃ (c : Nat), rs = [.d (.int c)] ∧ BoxOk n bx ∧ n + 2 + 2 * c < 1000000000 ∧ c < 60 ∧ ∀ ns bx', ns.length = c → ns.Pairwise (· < ·) → (∀ z ∈ ns, 1 ≤ z ∧ z ≤ 1000000000) → BoxOk (n + 2 + 2 * c) bx' → k (.dat (.list (zD ns))) bx'
theorem ok_law_souls (Y : Fs K mg) : FnOk P w K mg base CX0 4 Y.f_law_souls Y.d_law_souls ["_law_box_here", "_law_count"] (spB K C_law_souls) := by
  have G_law_of := ok_law_of (P := P) (w := w) (base := base) Y
  have G_law_take := ok_law_take (P := P) (w := w) (base := base) Y
  refine fnB (k := 3) Y.F_law_souls sc_law_souls (fun bx rs kk ⟨_, _, e, _⟩ => by rw [e]; rfl) (fun cdv A outer s H E hr => ⟨_, (pdss_cons (pds_par (i := 2) (j := 3) rfl sc_law_souls.nd rfl rfl (by decide) rfl rfl (pda_cons pd_dict0 (pda_cons (pd_callBx G_law_of (hr.mono (by decide)) (by rfl) Y.m_law_of Y.F_law_of.kp Y.b_law_of (pda_cons (pd_var 0) (pda_cons (pd_lst (pda_cons (pd_var 1) (pda_cons (pd_add (pd_mul pd_int (pd_var 1)) pd_int) (pda_cons (pd_pow pd_int pd_int) pda_nil)))) pda_nil))) pda_nil)) (by rfl))
      (pdss_cons (pds_for PassesOwn.never rfl (pdi_range1 (by rfl) Y.m_range (pda_cons (pd_var 1) pda_nil)) (pdg_name (ws := [4]) 4 sc_law_souls.nd (by decide) rfl (.inl rfl)) (pdss_cons (pds_set (i := 5) sc_law_souls.nd rfl (.inl rfl) (pd_add pd_int (pd_callBx G_law_take (hr.mono (by decide)) (by rfl) Y.m_law_take Y.F_law_take.kp Y.b_law_take (pda_cons (pd_var 0) (pda_cons (pd_max2 rfl (by rfl) Y.m_max (pda_cons pd_int (pda_cons (pd_var 3) pda_nil))) pda_nil)))))
      (pdss_cons (pds_while PassesOwn.never (pdt_inD (un1 hr) (pd_var 5) (pd_var 2)) (pdss_one (pds_set (i := 5) sc_law_souls.nd rfl (.inl rfl) (pd_add (pd_mod (pd_var 5) (pd_max2 rfl (by rfl) Y.m_max (pda_cons (pd_var 3) (pda_cons (pd_var 1) pda_nil)))) pd_int))))
      (pdss_one (pds_putD (un1 hr) (pd_var 2) (pd_var 5) pd_bool)))))
      (pdss_one (pds_ret (pd_sortedD rfl (by rfl) Y.m_sorted (pda_cons (pd_var 2) pda_nil)))))), fun bx rs kk h => ?_⟩)
  obtain ⟨n, c, rfl, h⟩ := h
  obtain ⟨hb, hn, hc, hk⟩ := h
  refine ⟨_, rfl, _, rfl, _, rfl, _, _, rfl, rfl, .inl ⟨by decide, by decide⟩, _, _, rfl, rfl, _, _, rfl, rfl, ⟨by decide, by decide, by decide⟩, [.int c, .int (3 * c + 1), .int 1000000000], rfl, lt3, 0, _, _, rfl, by simp [noO], rfl, n, _, _, rfl, hb, by omega, sqL, (by show 0 < 3; decide), (by show 3 ≤ 1000000; decide), fun d bx1 hd hb1 => ?_⟩
  obtain ⟨top, ed, t0, t1⟩ : ∃ top : Int, d = .int top ∧ (c : Int) ≤ top ∧ top ≤ 1000000000 := by
    have hd' : d = .int c ∨ d = .int (3 * c + 1) ∨ d = .int 1000000000 := by simpa using hd
    rcases hd' with e | e | e
    · exact ⟨_, e, by omega, by omega⟩
    · exact ⟨_, e, by omega, by omega⟩
    · exact ⟨_, e, by omega, by omega⟩
  subst ed
  refine ⟨_, _, rfl, _, rfl, _, rfl, by omega, by omega, ?_⟩
  rw [show rng 0 ((c : Nat) : Int).toNat = (List.range c).map (fun (i : Nat) => PyData.int (0 + (i : Int))) from rfl]
  refine for_inv (fun i g => ∃ bx' ks a b, g = ⟨[some (.o 0), some (.d (.int c)), some (.o 1), some (.d (.int top)), a, b], [.lst bx', .dK (kD ks)]⟩ ∧ ks.length = i ∧ ks.Nodup ∧ (∀ z ∈ ks, 1 ≤ z ∧ z ≤ 1000000000) ∧ BoxOk (n + 2 + 2 * i) bx') ⟨bx1, [], none, none, rfl, rfl, List.nodup_nil, (fun z hz => nomatch hz), hb1⟩ (fun i z g hz hI => ?_) (fun g hI => ?_)
  · obtain ⟨bx', ks, a, b, rfl, rfl, nd, hz1, hb'⟩ := hI
    have hi : ks.length < c := by have := (List.getElem?_eq_some_iff.mp hz).1; rw [List.length_range] at this; exact this
    have em : (if top > 1 then top else 1) = top := by split <;> omega
    have em2 : (if (c : Int) > top then (c : Int) else top) = top := by split <;> omega
    refine ⟨_, rfl, _, rfl, _, _, rfl, ?_⟩
    rw [em]
    refine ⟨0, _, _, rfl, by simp [noO], rfl, _, _, rfl, hb', by omega, by omega, by omega, fun r bx2 r0 r1 hb2 => ⟨_, _, rfl, rfl, ?_⟩⟩
    obtain ⟨v, v1, v2, v3⟩ := free_one (ks := ks) (m := top.toNat) (by omega)
    have v2 : v ≤ top := by omega
    refine ⟨fun m g => ∃ s : Int, g = ⟨[some (.o 0), some (.d (.int c)), some (.o 1), some (.d (.int top)), some (.d (.int (0 + (z : Int)))), some (.d (.int s))], [.lst bx2, .dK (kD ks)]⟩ ∧ 1 ≤ s ∧ s ≤ top ∧ ((v - s) % top).toNat = m, ⟨_, 1 + r, rfl, by omega, by omega, rfl⟩, ?_⟩
    rintro m g ⟨s, rfl, s1, s2, rfl⟩
    refine ⟨_, rfl, _, rfl, _, 1, _, rfl, rfl, rfl, _, rfl, ?_⟩
    rw [kD_has]
    by_cases hs : s ∈ ks
    · refine (if_pos (decide_eq_true hs)).mpr ?_
      refine ⟨_, rfl, _, rfl, _, rfl, _, _, rfl, ?_⟩
      rw [em2]
      refine ⟨_, _, rfl, rfl, by omega, _, _, rfl, rfl, ?_⟩
      have ne : v ≠ s := fun e => v3 (e ▸ hs)
      have st := step_free v1 v2 s1 s2 ne
      exact ⟨_, st.2.2, _, rfl, st.1, st.2.1, rfl⟩
    · refine (if_neg (by simpa using hs)).mpr ?_
      refine ⟨_, rfl, _, rfl, _, 1, _, _, rfl, rfl, rfl, rfl, ?_, ?_⟩
      · unfold kD; rw [List.length_map]; omega
      · rw [kD_put hs]
        refine ⟨bx2, ks ++ [s], _, _, rfl, by rw [List.length_append]; rfl, ?_, fun y hy => ?_, hb2.mono (by omega)⟩
        · exact List.nodup_append.mpr ⟨nd, by simp, fun a ha b hb => by rw [List.mem_singleton.mp hb]; exact fun e => hs (e ▸ ha)⟩
        · rcases List.mem_append.mp hy with q | q
          · exact hz1 y q
          · rw [List.mem_singleton.mp q]; omega
  · obtain ⟨bx', ks, a, b, rfl, hl, nd, hz1, hb'⟩ := hI
    rw [List.length_range] at hl hb'
    refine ⟨_, rfl, 1, _, ks, rfl, rfl, kD_keys ks, by omega, _, rfl, hk (srt ks) bx' (by rw [srt_len]; exact hl) (srt_lt nd) (fun z hz => hz1 z (srt_mem.mp hz)) hb'⟩
def C_law_crowd (bx : List PyData) (rs : List R) (k : Res → List PyData → Prop) : Prop := ∃ (n : Nat), ∃ (m : Nat), rs = [.d (.int m)] ∧ BoxOk n bx ∧ n < 900000000 ∧ m < 50 ∧ ∀ ns bx', ns.length ≤ m → ns.Nodup → (∀ z ∈ ns, 1 ≤ z ∧ z ≤ 1000000000) → BoxOk (n + 500) bx' → k (.dat (.tuple (zD ns))) bx'
theorem ok_law_crowd (Y : Fs K mg) : FnOk P w K mg base CX0 5 Y.f_law_crowd Y.d_law_crowd ["_law_box_here", "_law_most"] (spB K C_law_crowd) := by
  have G_law_souls := ok_law_souls (P := P) (w := w) (base := base) Y
  have G_law_strewn := ok_law_strewn (P := P) (w := w) (base := base) Y
  have G_law_take := ok_law_take (P := P) (w := w) (base := base) Y
  refine fnB (k := 4) Y.F_law_crowd sc_law_crowd (fun bx rs kk ⟨_, _, e, _⟩ => by rw [e]; rfl) (fun cdv A outer s H E hr => ⟨_, (pdss_cons (pds_set (i := 2) sc_law_crowd.nd rfl (.inl rfl) (pd_callBx G_law_souls (hr.mono (by decide)) (by rfl) Y.m_law_souls Y.F_law_souls.kp Y.b_law_souls (pda_cons (pd_var 0) (pda_cons (pd_callBx G_law_take (hr.mono (by decide)) (by rfl) Y.m_law_take Y.F_law_take.kp Y.b_law_take (pda_cons (pd_var 0) (pda_cons (pd_add (pd_var 1) pd_int) pda_nil))) pda_nil))))
      (pdss_cons (pds_if (pdt_eq hr.units (pd_callBx G_law_take (hr.mono (by decide)) (by rfl) Y.m_law_take Y.F_law_take.kp Y.b_law_take (pda_cons (pd_var 0) (pda_cons pd_int pda_nil))) pd_int) (pdss_one (pds_ret (pd_tuple1 rfl (by rfl) Y.m_tuple (pda_cons (pd_callBx G_law_strewn (hr.mono (by decide)) (by rfl) Y.m_law_strewn Y.F_law_strewn.kp Y.b_law_strewn (pda_cons (pd_var 0) (pda_cons (pd_var 2) pda_nil))) pda_nil)))) pdss_nil)
      (pdss_cons (pds_set (i := 3) sc_law_crowd.nd rfl (.inl rfl) (pd_lstO pda_nil))
      (pdss_cons (pds_for PassesOwn.never rfl (pdi_seq (pd_revL (pd_var 2))) (pdg_name (ws := [4]) 4 sc_law_crowd.nd (by decide) rfl (.inl rfl)) (pdss_one (pds_expr (pd_insert (pd_var 3) (pda_cons (pd_if (pdt_gt (pd_callBx G_law_take (hr.mono (by decide)) (by rfl) Y.m_law_take Y.F_law_take.kp Y.b_law_take (pda_cons (pd_var 0) (pda_cons pd_int pda_nil))) pd_int) (pd_div (pd_len rfl (by rfl) Y.m_len (pda_cons (pd_var 3) pda_nil)) pd_int) (pd_callBx G_law_take (hr.mono (by decide)) (by rfl) Y.m_law_take Y.F_law_take.kp Y.b_law_take (pda_cons (pd_var 0) (pda_cons (pd_add (pd_len rfl (by rfl) Y.m_len (pda_cons (pd_var 3) pda_nil)) pd_int) pda_nil)))) (pda_cons (pd_var 4) pda_nil))))))
      (pdss_one (pds_ret (pd_tuple1 rfl (by rfl) Y.m_tuple (pda_cons (pd_var 3) pda_nil)))))))), fun bx rs kk h => ?_⟩)
  obtain ⟨n, m, rfl, h⟩ := h
  obtain ⟨hb, hn, hm, hk⟩ := h
  refine ⟨_, rfl, _, rfl, _, rfl, _, _, rfl, rfl, 0, _, _, rfl, by simp [noO], rfl, n, _, rfl, hb, by omega, by omega, by omega, fun r bx1 r0 r1 hb1 => ?_⟩
  obtain ⟨c, rfl⟩ := Int.eq_ofNat_of_zero_le r0
  refine ⟨0, _, _, rfl, by simp [noO], rfl, _, c, rfl, hb1, by omega, by omega, fun hs bx2 hl hp hz hb2 => ?_⟩
  have nd : hs.Nodup := nodup_of_lt hp
  refine ⟨_, rfl, 0, _, _, rfl, by simp [noO], rfl, _, _, rfl, hb2, by omega, by decide, by decide, fun r bx3 q0 q1 hb3 => ?_⟩
  refine ⟨.int r, .int 0, rfl, rfl, sh_int, sh_int, _, rfl, ?_⟩
  rw [eqv_int]
  by_cases c0 : r = 0
  · refine (if_pos (decide_eq_true c0)).mpr ?_
    refine ⟨_, rfl, _, rfl, 0, _, _, rfl, by simp [noO], rfl, _, _, _, rfl, hb3, by rw [List.length_map]; omega, sqL, by rw [List.length_map]; omega, plain_ints _ 5, fun es bx4 hes hb4 => ⟨_, _, _, rfl, rfl, _, rfl, ?_⟩⟩
    obtain ⟨ns, rfl, hns⟩ := perm_zD hes
    rw [List.length_map] at hb4
    exact hk ns bx4 (by rw [hns.length_eq]; omega) (hns.nodup_iff.mpr nd) (fun z h => hz z (hns.mem_iff.mp h)) (hb4.mono (by omega))
  refine (if_neg (fun z => c0 (of_decide_eq_true z))).mpr ?_
  refine ⟨[], rfl, Nat.zero_le _, _, rfl, _, rfl, _, _, rfl, rfl, ?_⟩
  rw [show (zD hs).reverse = hs.reverse.map PyData.int from List.map_reverse.symm]
  refine for_inv (fun i g => ∃ bx' f a, g = ⟨[some (.o 0), some (.d (.int m)), some (.d (.list (zD hs))), some (.o 1), a], [.lst bx', .lst (zD f)]⟩ ∧ f.Perm (hs.reverse.take i) ∧ BoxOk (n + 2 + (2 + 2 * c) + 2 + 4 * i) bx') ⟨bx3, [], none, rfl, List.Perm.refl _, hb3.mono (by omega)⟩ (fun i z g hz1 hI => ?_) (fun g hI => ?_)
  · obtain ⟨bx', f, a, rfl, pr, hb'⟩ := hI
    have hi : i < c := by have := (List.getElem?_eq_some_iff.mp hz1).1; rw [List.length_reverse] at this; omega
    have lf : f.length ≤ i := by rw [pr.length_eq, List.length_take]; omega
    have fin : ∀ (p : Int) (bx5 : List PyData), 0 ≤ p → p ≤ f.length → BoxOk (n + 2 + (2 + 2 * c) + 2 + 4 * (i + 1)) bx5 → ∃ bx' f' a, (⟨[some (.o 0), some (.d (.int m)), some (.d (.list (zD hs))), some (.o 1), some (.d (.int z))], [.lst bx5, .lst ((zD f).take p.toNat ++ [.int z] ++ (zD f).drop p.toNat)]⟩ : G) = ⟨[some (.o 0), some (.d (.int m)), some (.d (.list (zD hs))), some (.o 1), a], [.lst bx', .lst (zD f')]⟩ ∧ f'.Perm (hs.reverse.take (i + 1)) ∧ BoxOk (n + 2 + (2 + 2 * c) + 2 + 4 * (i + 1)) bx' := fun p bx5 p0 p1 hb5 => by
      refine ⟨bx5, insP f (z, p), some (.d (.int z)), ?_, ?_, hb5⟩
      · unfold insP zD
        rw [List.map_append, List.map_append, List.map_take, List.map_drop]
        rfl
      · rw [List.take_add_one, hz1]
        exact insP_perm.trans ((List.Perm.cons z pr).trans (List.perm_append_comm (l₁ := [z])))
    refine ⟨_, rfl, ⟨_, rfl⟩, _, rfl, 0, _, _, rfl, by simp [noO], rfl, _, _, rfl, hb', by omega, by decide, by decide, fun r bx4 q0 q1 hb4 => ⟨_, _, rfl, rfl, _, rfl, ?_⟩⟩
    by_cases cr : 0 < r
    · refine (if_pos (decide_eq_true cr)).mpr ?_
      refine ⟨_, rfl, _, _, _, rfl, rfl, _, _, rfl, rfl, ⟨by decide, by decide +kernel⟩, _, rfl, 1, _, _, _, rfl, rfl, rfl, by rw [List.length_map]; omega, Int.ediv_nonneg (by omega) (by decide), ?_, fin _ bx4 (Int.ediv_nonneg (by omega) (by decide)) ?_ (hb4.mono (by omega))⟩
      · rw [List.length_map]; omega
      · rw [List.length_map]; omega
    · refine (if_neg (fun z => cr (of_decide_eq_true z))).mpr ?_
      refine ⟨_, rfl, _, rfl, _, _, _, rfl, rfl, _, _, rfl, rfl, 0, _, _, rfl, by simp [noO], rfl, _, _, rfl, hb4, by omega, by omega, by rw [List.length_map]; omega, fun p bx5 p0 p1 hb5 => ?_⟩
      rw [List.length_map] at p1
      exact ⟨_, rfl, 1, _, _, _, rfl, rfl, rfl, by rw [List.length_map]; omega, p0, by omega, fin p bx5 p0 (by omega) (hb5.mono (by omega))⟩
  · obtain ⟨bx', f, a, rfl, pr, hb'⟩ := hI
    rw [List.take_length] at pr
    have pr := pr.trans (List.reverse_perm hs)
    rw [List.length_reverse] at hb'
    exact ⟨_, rfl, _, _, _, rfl, rfl, _, rfl, hk f bx' (by rw [pr.length_eq]; omega) (pr.nodup_iff.mpr nd) (fun z h => hz z (pr.mem_iff.mp h)) (hb'.mono (by omega))⟩
def I_right (n : Nat) (ns : List Int) (i : Nat) (g : G) : Prop := ∃ (bx' : List PyData) (hs : List Int) (a5 a6 a7 a8 a9 a10 a11 a12 a13 a14 a15 : Option R), g = ⟨[some (.o 0), some (.d (tupD ns)), some (.d (dueD ns)), some (.d (.list (zD (srt ns)))), some (.d (tupD hs)), a5, a6, a7, a8, a9, a10, a11, a12, a13, a14, a15], [.lst bx']⟩ ∧ Mate ns hs ∧ InRs (runsM ns) (codesM hs) ∧ stepsM ns hs ≤ i ∧ (stepsM ns hs - i) % 2 = 0 ∧ (i = 0 → hs = ns) ∧ (0 < i → exchM hs ≠ []) ∧ BoxOk (n + 500 + 2 * i) bx'
def C_law_right (bx : List PyData) (rs : List R) (k : Res → List PyData → Prop) : Prop := ∃ (n : Nat), rs = [] ∧ BoxOk n bx ∧ n < 800000000 ∧ ∀ bx', BoxOk (n + 1000) bx' → k (.dat (.bool true)) bx'
theorem ok_law_right (Y : Fs K mg) : FnOk P w K mg base CX0 9 Y.f_law_right Y.d_law_right ["_law_box_here"] (spB K C_law_right) := by
  have G_law_crowd := ok_law_crowd (P := P) (w := w) (base := base) Y
  have G_law_of := ok_law_of (P := P) (w := w) (base := base) Y
  have G_codes := ok_codes (P := P) (w := w) (base := base) Y
  have G_count_rows := ok_count_rows (P := P) (w := w) (base := base) Y
  have G_exchanged := ok_exchanged (P := P) (w := w) (base := base) Y
  have G_exchanges := ok_exchanges (P := P) (w := w) (base := base) Y
  have G_leads := ok_leads (P := P) (w := w) (base := base) Y
  have G_mover := ok_mover (P := P) (w := w) (base := base) Y
  have G_runs := ok_runs (P := P) (w := w) (base := base) Y
  have G_steps := ok_steps (P := P) (w := w) (base := base) Y
  refine fnB (k := 8) Y.F_law_right sc_law_right (fun bx rs kk ⟨_, e, _⟩ => by rw [e]; rfl) (fun cdv A outer s H E hr => ⟨_, (pdss_cons (pds_set (i := 1) sc_law_right.nd rfl (.inl rfl) (pd_callBx G_law_crowd (hr.mono (by decide)) (by rfl) Y.m_law_crowd Y.F_law_crowd.kp Y.b_law_crowd (pda_cons (pd_var 0) (pda_cons pd_int pda_nil))))
      (pdss_cons (pds_par (i := 2) (j := 3) rfl sc_law_right.nd rfl rfl (by decide) rfl rfl (pda_cons (pd_lst (pda_cons (pd_callN G_runs (hr.mono (by decide)) (by rfl) Y.m_runs Y.F_runs.kp Y.b_runs (pda_cons (pd_var 1) pda_nil)) (pda_cons (pd_callN G_count_rows (hr.mono (by decide)) (by rfl) Y.m_count_rows Y.F_count_rows.kp Y.b_count_rows (pda_cons (pd_var 1) pda_nil)) pda_nil))) (pda_cons (pd_sorted (by rfl) Y.m_sorted (pda_cons (pd_var 1) pda_nil)) pda_nil)) (by rfl))
      (pdss_cons (pds_set (i := 4) sc_law_right.nd rfl (.inl rfl) (pd_var 1))
      (pdss_cons (pds_for PassesOwn.never rfl (pdi_range1 (by rfl) Y.m_range (pda_cons pd_int pda_nil)) (pdg_name (ws := [5]) 5 sc_law_right.nd (by decide) rfl (.inr rfl)) (pdss_cons (pds_set (i := 6) sc_law_right.nd rfl (.inl rfl) (pd_callN G_exchanges (hr.mono (by decide)) (by rfl) Y.m_exchanges Y.F_exchanges.kp Y.b_exchanges (pda_cons (pd_var 4) pda_nil)))
      (pdss_cons (pds_if (pdt_eq hr.units (pd_var 6) (pd_lst pda_nil)) (pdss_one (pds_ret (pd_and (pd_eq hr.units (pd_var 4) (pd_var 1)) (pd_one (pd_all1 rfl (by rfl) Y.m_all (pda_cons (pd_lc rfl sc_law_right.nd (pdi_seq (pd_ix (pd_var 2) pd_int)) (blkOk_by (own := [("_law_first", 10), ("_law_last", 11)]) (N := N_law_right) (sc := defScope s_law_right) (by decide +kernel)) (fun _ _ _ _ _ => (pdg_tup (n := 2) rfl (pdgs_cons (pdg_name (ws := [10, 11]) 10 sc_law_right.nd (by decide) rfl (.inl rfl)) (pdgs_cons (pdg_name (ws := [10, 11]) 11 sc_law_right.nd (by decide) rfl (.inl rfl)) pdgs_nil)))) (fun _ _ _ _ _ => pdts_nil) (fun _ _ _ _ _ => (pd_or (pd_eq hr.units (pd_var 10) (pd_var 11)) (pd_one (pd_gt (pd_var 5) pd_int))))) pda_nil)))))) pdss_nil)
      (pdss_cons (pds_set (i := 7) sc_law_right.nd rfl (.inl rfl) (pd_callBx G_law_of (hr.mono (by decide)) (by rfl) Y.m_law_of Y.F_law_of.kp Y.b_law_of (pda_cons (pd_var 0) (pda_cons (pd_var 6) pda_nil))))
      (pdss_cons (pds_set (i := 8) sc_law_right.nd rfl (.inl rfl) (pd_callN G_exchanged (hr.mono (by decide)) (by rfl) Y.m_exchanged Y.F_exchanged.kp Y.b_exchanged (pda_cons (pd_var 4) (pda_cons (pd_var 7) pda_nil))))
      (pdss_cons (pds_setLc (i := 9) rfl sc_law_right.nd rfl rfl (sw_true rfl rfl rfl (by decide +kernel)) (pdi_zipP3 (by rfl) Y.m_zip (pda_cons (pd_var 3) (pda_cons (pd_callN G_codes (hr.mono (by decide)) (by rfl) Y.m_codes Y.F_codes.kp Y.b_codes (pda_cons (pd_var 4) pda_nil)) (pda_cons (pd_callN G_codes (hr.mono (by decide)) (by rfl) Y.m_codes Y.F_codes.kp Y.b_codes (pda_cons (pd_var 8) pda_nil)) pda_nil)))) (blkOk_by (own := [("_law_soul", 12), ("_law_a", 13), ("_law_b", 14)]) (N := N_law_right) (sc := defScope s_law_right) (by decide +kernel)) (fun _ _ _ _ _ => (pdg_tup (n := 3) rfl (pdgs_cons (pdg_name (ws := [12, 13, 14]) 12 sc_law_right.nd (by decide) rfl (.inl rfl)) (pdgs_cons (pdg_name (ws := [12, 13, 14]) 13 sc_law_right.nd (by decide) rfl (.inl rfl)) (pdgs_cons (pdg_name (ws := [12, 13, 14]) 14 sc_law_right.nd (by decide) rfl (.inl rfl)) pdgs_nil))))) (fun _ _ _ _ _ => (pdts_one (pdt_ne hr.units (pd_var 13) (pd_var 14)))) (fun _ _ _ _ _ => (pd_tup (pda_cons (pd_var 12) (pda_cons (pd_sub (pd_var 14) (pd_var 13)) pda_nil)))))
      (pdss_cons (pds_if (pdt_w (pdw_or (pdt_ne hr.units (pd_var 9) (pd_lst (pda_cons (pd_callN G_mover (hr.mono (by decide)) (by rfl) Y.m_mover Y.F_mover.kp Y.b_mover (pda_cons (pd_var 4) (pda_cons (pd_var 7) pda_nil))) pda_nil))) (pdw_or1 (pdt_ne hr.units (pd_abs rfl (by rfl) Y.m_abs (pda_cons (pd_ix (pd_ix (pd_var 9) pd_int) pd_int) pda_nil)) pd_int)))) (pdss_one (pds_ret pd_bool)) pdss_nil)
      (pdss_cons (pds_set (i := 4) sc_law_right.nd rfl (.inl rfl) (pd_var 8))
      (pdss_cons (pds_if (pdt_not (pdt_val (pd_all1 rfl (by rfl) Y.m_all (pda_cons (pd_lc rfl sc_law_right.nd (pdi_zipP2 (by rfl) Y.m_zip (pda_cons (pd_ix (pd_var 2) pd_int) (pda_cons (pd_callN G_codes (hr.mono (by decide)) (by rfl) Y.m_codes Y.F_codes.kp Y.b_codes (pda_cons (pd_var 4) pda_nil)) pda_nil))) (blkOk_by (own := [("_law_code", 15), ("_law_first", 10), ("_law_last", 11)]) (N := N_law_right) (sc := defScope s_law_right) (by decide +kernel)) (fun _ _ _ _ _ => (pdg_tup (n := 2) rfl (pdgs_cons (pdg_tup (n := 2) rfl (pdgs_cons (pdg_name (ws := [15, 10, 11]) 10 sc_law_right.nd (by decide) rfl (.inl rfl)) (pdgs_cons (pdg_name (ws := [15, 10, 11]) 11 sc_law_right.nd (by decide) rfl (.inl rfl)) pdgs_nil))) (pdgs_cons (pdg_name (ws := [15, 10, 11]) 15 sc_law_right.nd (by decide) rfl (.inl rfl)) pdgs_nil)))) (fun _ _ _ _ _ => pdts_nil) (fun _ _ _ _ _ => (pd_lele (pd_var 10) (pd_var 15) (pd_var 11)))) pda_nil)))) (pdss_one (pds_ret pd_bool)) pdss_nil)
      (pdss_one (pds_if (pdt_eq hr.units (pd_mod (pd_var 5) pd_int) pd_int) (pdss_cons (pds_if (pdt_w (pdw_or (pdt_ne hr.units (pd_lst (pda_cons (pd_callN G_runs (hr.mono (by decide)) (by rfl) Y.m_runs Y.F_runs.kp Y.b_runs (pda_cons (pd_var 4) pda_nil)) (pda_cons (pd_callN G_count_rows (hr.mono (by decide)) (by rfl) Y.m_count_rows Y.F_count_rows.kp Y.b_count_rows (pda_cons (pd_var 4) pda_nil)) pda_nil))) (pd_var 2)) (pdw_or (pdt_not (pdt_val (pd_callN G_leads (hr.mono (by decide)) (by rfl) Y.m_leads Y.F_leads.kp Y.b_leads (pda_cons (pd_var 1) (pda_cons (pd_var 4) pda_nil))))) (pdw_or1 (pdt_not (pdt_val (pd_callN G_leads (hr.mono (by decide)) (by rfl) Y.m_leads Y.F_leads.kp Y.b_leads (pda_cons (pd_var 4) (pda_cons (pd_var 1) pda_nil))))))))) (pdss_one (pds_ret pd_bool)) pdss_nil)
      (pdss_one (pds_if (pdt_w (pdw_or (pdt_gt (pd_callN G_steps (hr.mono (by decide)) (by rfl) Y.m_steps Y.F_steps.kp Y.b_steps (pda_cons (pd_var 1) (pda_cons (pd_var 4) pda_nil))) (pd_add (pd_var 5) pd_int)) (pdw_or1 (pdt_ne hr.units (pd_mod (pd_sub (pd_callN G_steps (hr.mono (by decide)) (by rfl) Y.m_steps Y.F_steps.kp Y.b_steps (pda_cons (pd_var 1) (pda_cons (pd_var 4) pda_nil))) (pd_var 5)) pd_int) pd_int)))) (pdss_one (pds_ret pd_bool)) pdss_nil))) pdss_nil)))))))))))
      (pdss_one (pds_ret pd_bool)))))), fun bx rs kk h => ?_⟩)
  obtain ⟨n, rfl, h⟩ := h
  obtain ⟨hb, hn, hk⟩ := h
  refine ⟨_, rfl, 0, _, _, rfl, by simp [noO], rfl, n, 16, rfl, hb, by omega, by decide, fun ns bx1 hl nd hz hb1 => ?_⟩
  refine ⟨_, rfl, by simp [noO], _, ns, rfl, sqT, by omega, nd, _, rfl, by simp [noO], _, ns, rfl, sqT, by omega, nd, [.tuple (psD (runsM ns)), .int (cntM (runsM ns))], rfl, lt2, _, rfl, _, true, ns, rfl, rfl, _, _, rfl, ?_⟩
  refine ⟨_, rfl, 60, rfl, by decide, by decide, ?_⟩
  rw [show (60 : Int).toNat = 60 from rfl, rng0]
  have in0 : InRs (runsM ns) (codesM ns) := by
    unfold runsM runsC
    exact inRs_self (iniR_part _) (by rw [codes_len]; exact codes_bd _ _ rfl nd)
  refine for_inv (I_right n ns) ⟨bx1, ns, none, none, none, none, none, none, none, none, none, none, none, rfl, mate_self nd, in0, by rw [steps_self]; decide, by rw [steps_self]; decide, fun _ => rfl, fun z => absurd z (by decide), hb1⟩ (fun i z g hz hI => ?_) (fun g hI => ?_)
  · obtain ⟨bx', hs, a5, a6, a7, a8, a9, a10, a11, a12, a13, a14, a15, rfl, mt, hin, hst, hpar, h0, hpos, hb'⟩ := hI
    have hi : i < 60 := by have := (List.getElem?_eq_some_iff.mp hz).1; rw [List.length_range] at this; exact this
    have ez : z = i := by
      rw [List.getElem?_range hi] at hz
      exact (Option.some.inj hz).symm
    subst ez
    have ml := mt.len
    refine ⟨_, rfl, by simp [noO], _, hs, rfl, sqT, by omega, ?_⟩
    refine ⟨_, rfl, [], rfl, Nat.zero_le _, oEq_of (n := 2) (x := .list ((exchM hs).map pN)) (y := .list []) rfl rfl (plain_pN _ 0) rfl (by decide) ((exchM hs).isEmpty) (by cases exchM hs <;> simp) ⟨_, rfl, ?_⟩⟩
    by_cases ce : exchM hs = []
    · have i0 : z = 0 := by
        by_cases q : z = 0
        · exact q
        · exact absurd ce (hpos (by omega))
      have eh := h0 i0
      subst eh
      refine (if_pos (by rw [ce]; rfl)).mpr ?_
      have sg := noEx_sing nd ce
      refine ⟨_, rfl, _, rfl, oEq_of (n := 1) (x := tupD hs) (y := tupD hs) rfl rfl (plain_ints _ 0) (plain_ints _ 0) (by decide) true (by simp) ⟨_, rfl, ?_⟩⟩
      refine ⟨_, rfl, _, _, _, _, rfl, rfl, rfl, _, _, rfl, rfl, ?_⟩
      refine lc_map (emb := pD) (fun _ => .bool true) (by rw [runs_len]; omega) (fun q hq I1 I0 h => ?_) ⟨_, (runsM hs).map (fun _ => true), rfl, by rw [List.map_map]; rfl, ?_⟩
      · exact ⟨_, rfl, rfl, _, _, rfl, _, _, rfl, rfl, _, rfl, _, rfl, oEq_of (n := 1) (x := .int q.1) (y := .int q.2) rfl rfl rfl rfl (by decide) true (by rw [sg q hq]; simp) ⟨_, rfl, _, rfl, h⟩⟩
      · rw [List.all_map, show ((runsM hs).all (id ∘ fun _ => true)) = true from List.all_eq_true.mpr fun _ _ => rfl]
        exact ⟨bx', rfl, hk bx' (hb'.mono (by omega))⟩
    refine (if_neg (fun q => ce (List.isEmpty_iff.mp q))).mpr ?_
    have l1 := sights_len hs hs.length
    have l3 : hs.length * hs.length ≤ 100 * 100 := Nat.mul_le_mul (by omega) (by omega)
    have l4 : (exchM hs).length ≤ 10000 := by
      unfold exchM
      have q := List.length_filter_le (fun p => decide (p.1 + 1 < p.2)) (sightsM hs)
      unfold sightsM at q
      have : (exchM hs).length ≤ ((List.range hs.length).flatMap (sightsAt hs)).length := q
      unfold sightsM
      omega
    refine ⟨_, rfl, _, rfl, 0, _, _, rfl, by simp [noO], rfl, _, _, _, rfl, hb', by omega, sqL, by rw [List.length_map]; exact List.length_pos_iff.mpr ce, by rw [List.length_map]; omega, fun d bx2 hd hb2 => ?_⟩
    obtain ⟨⟨p, q⟩, hpq, rfl⟩ := List.mem_map.mp hd
    have ex := exch_does mt.nd hpq
    refine ⟨_, rfl, _, rfl, by simp [noO], _, hs, p, q, rfl, sqT, by omega, hpq, ?_⟩
    have mv : ∀ kk : Res → Prop, kk (.dat (pD (minI (hs.getD p 0) (hs.getD q 0), if hs.getD p 0 < hs.getD q 0 then 1 else -1))) → C_mover [.d (tupD hs), .d (pN (p, q))] kk := fun kk hkk => ⟨_, hs, p, q, rfl, sqT, by omega, hpq, mt.nd, hkk⟩
    revert ex mv
    generalize minI (hs.getD p 0) (hs.getD q 0) = hh
    generalize (if hs.getD p 0 < hs.getD q 0 then (1 : Int) else -1) = dd
    generalize ets : swapM hs p q = ts
    intro ex mv
    have mt2 : Mate ns ts := mt.trans ex.mate
    have ml2 := mt2.len
    refine ⟨_, rfl, _, rfl, by simp [noO], _, hs, rfl, sqT, by omega, _, rfl, by simp [noO], _, ts, rfl, sqT, by omega, _, _, _, _, _, _, _, _, _, rfl, rfl, rfl, rfl, by rw [List.length_map, List.length_map, srt_len, codes_len]; omega, by rw [List.length_map, List.length_map, srt_len, codes_len]; omega, ?_⟩
    rw [zip3_map]
    refine lc_pure (emb := fun (q : Int × Int × Int) => PyData.tuple [.int q.1, .int q.2.1, .int q.2.2]) (fun q => !decide (q.2.1 = q.2.2)) (fun q => pD (q.1, q.2.2 - q.2.1)) (by rw [List.length_zip, srt_len]; omega) (fun q hq I1 I0 h => ?_) ?_
    · exact ⟨_, rfl, rfl, _, _, rfl, _, _, rfl, _, _, rfl, rfl, _, rfl, _, rfl, oNe_of (n := 1) (x := .int q.2.1) (y := .int q.2.2) rfl rfl rfl rfl (by decide) (!decide (q.2.1 = q.2.2)) (by simp) ⟨_, rfl, ite_mono h (fun _ h => ⟨_, rfl, _, rfl, _, rfl, _, _, rfl, rfl, [.int q.1, .int (q.2.2 - q.2.1)], rfl, lt2, _, rfl, h⟩) (fun _ h => h)⟩⟩
    have ea : (((srt ns).zip ((codesM hs).zip (codesM ts))).filter (fun q => !decide (q.2.1 = q.2.2))).map (fun q => pD (q.1, q.2.2 - q.2.1)) = [pD (hh, dd)] := by
      rw [← mt.sr, apart_one mt.nd ex, List.map_cons, List.map_nil]
      show [pD (hh, codeI hs hh + dd - codeI hs hh)] = _
      rw [show codeI hs hh + dd - codeI hs hh = dd by omega]
    rw [ea]
    refine ⟨_, rfl, _, rfl, _, rfl, by simp [noO], mv _ ⟨[pD (hh, dd)], rfl, lt1, oNe_of (n := 2) (x := .list [pD (hh, dd)]) (y := .list [pD (hh, dd)]) rfl rfl (plain_pairs [_] 0) (plain_pairs [_] 0) (by decide) false (by simp) ⟨_, rfl, ?_⟩⟩⟩
    have ad : (if dd < 0 then -dd else dd) = 1 := by rcases ex.step with e | e <;> rw [e] <;> decide
    refine ⟨_, rfl, _, _, _, _, rfl, rfl, rfl, _, _, _, _, rfl, rfl, rfl, _, rfl, .int (if dd < 0 then -dd else dd), .int 1, rfl, rfl, sh_int, sh_int, _, rfl, ?_⟩
    rw [eqv_int, ad]
    have hin2 : InRs (runsM ns) (codesM ts) := by rw [← mt.rn]; exact ex.inr
    refine ⟨_, rfl, _, rfl, _, _, _, _, rfl, rfl, rfl, _, rfl, by simp [noO], _, ts, rfl, sqT, by omega, _, _, _, _, _, _, rfl, rfl, rfl, by rw [List.length_map, List.length_map, codes_len, runs_len]; exact ml2, ?_⟩
    rw [zip2_map]
    refine lc_map (emb := fun (q : (Int × Int) × Int) => PyData.tuple [pD q.1, .int q.2]) (fun _ => .bool true) (by rw [List.length_zip, runs_len]; omega) (fun q hq I1 I0 h => ?_) ⟨_, ((runsM ns).zip (codesM ts)).map (fun _ => true), rfl, by rw [List.map_map]; rfl, ?_⟩
    · obtain ⟨b1, b2⟩ := inRs_zip hin2 q hq
      refine ⟨_, rfl, rfl, _, _, rfl, ⟨_, rfl, rfl, _, _, rfl, _, _, rfl, rfl, _, _, rfl, rfl, ?_⟩⟩
      refine ⟨_, rfl, _, rfl, _, _, rfl, rfl, _, rfl, ?_⟩
      rw [decide_eq_true b1]
      refine ⟨_, rfl, _, _, rfl, rfl, ?_⟩
      refine ⟨_, rfl, ?_⟩
      show I1 (.bool (decide (q.2 ≤ q.1.2))) _
      rw [decide_eq_true b2]
      exact h
    rw [List.all_map, show (((runsM ns).zip (codesM ts)).all (id ∘ fun _ => true)) = true from List.all_eq_true.mpr fun _ _ => rfl]
    have st := steps_exch mt.sr nd ex
    have bar1 : barM ns ts = none := mate_bar (mate_self nd) mt2
    have bar2 : barM ts ns = none := mate_bar mt2 (mate_self nd)
    have fin : ∀ s6 s7 s8 s9, I_right n ns (z + 1) ⟨[some (.o 0), some (.d (tupD ns)), some (.d (dueD ns)), some (.d (.list (zD (srt ns)))), some (.d (tupD ts)), some (.d (.int (z : Int))), s6, s7, s8, s9, a10, a11, a12, a13, a14, a15], [.lst bx2]⟩ := fun s6 s7 s8 s9 => ⟨bx2, ts, _, _, _, _, _, _, _, _, _, _, _, rfl, mt2, hin2, by omega, by omega, fun q => absurd q (by omega), (fun _ q => by have := ex.again; rw [q] at this; cases this), hb2.mono (by omega)⟩
    refine ⟨_, rfl, _, rfl, _, _, rfl, rfl, (by show (0 : Int) < _; decide), .int ((z : Int) % 15), .int 14, rfl, rfl, sh_int, sh_int, _, rfl, ?_⟩
    rw [eqv_int]
    by_cases c15 : (z : Int) % 15 = 14
    · refine (if_pos (decide_eq_true c15)).mpr ?_
      refine ⟨_, rfl, by simp [noO], _, ts, rfl, sqT, by omega, mt2.nd, _, rfl, by simp [noO], _, ts, rfl, sqT, by omega, mt2.nd, [.tuple (psD (runsM ts)), .int (cntM (runsM ts))], rfl, lt2, _, rfl, oNe_of (n := 4) (x := dueD ts) (y := dueD ns) rfl rfl (plain_due ts) (plain_due ns) (by decide) false (by unfold dueD; rw [mt2.rn]; simp) ⟨_, rfl, ?_⟩⟩
      refine ⟨_, rfl, _, rfl, by simp [noO], _, _, ns, ts, rfl, sqT, sqT, by omega, nd, mt2.nd, mt2.sr.symm, ?_⟩
      rw [bar1]
      refine ⟨_, rfl, _, rfl, _, rfl, by simp [noO], _, _, ts, ns, rfl, sqT, sqT, by omega, mt2.nd, nd, mt2.sr, ?_⟩
      rw [bar2]
      refine ⟨_, rfl, ?_⟩
      refine ⟨_, rfl, _, rfl, by simp [noO], _, _, ns, ts, rfl, sqT, sqT, by omega, nd, mt2.nd, mt2.sr.symm, bar1, _, rfl, _, _, rfl, rfl, _, _, rfl, rfl, _, rfl, ?_⟩
      rw [decide_eq_false (show ¬ (z : Int) + 1 < stepsM ns ts by omega)]
      refine ⟨_, rfl, _, rfl, by simp [noO], _, _, ns, ts, rfl, sqT, sqT, by omega, nd, mt2.nd, mt2.sr.symm, bar1, _, rfl, _, _, rfl, rfl, _, _, rfl, rfl, (by show (0 : Int) < _; decide), .int ((stepsM ns ts - (z : Int)) % 2), .int 1, rfl, rfl, sh_int, sh_int, _, rfl, ?_⟩
      rw [eqv_int, show (stepsM ns ts - (z : Int)) % 2 = 1 by omega]
      exact fin _ _ _ _
    · refine (if_neg (fun q => c15 (of_decide_eq_true q))).mpr ?_
      exact fin _ _ _ _
  · obtain ⟨bx', hs, a5, a6, a7, a8, a9, a10, a11, a12, a13, a14, a15, rfl, mt, hin, hst, hpar, h0, hpos, hb'⟩ := hI
    rw [List.length_range] at hb'
    exact ⟨bx', rfl, hk bx' (hb'.mono (by omega))⟩
def C_law (rs : List R) (k : Res → Prop) : Prop := ∃ ns, rs = [.s ns] ∧ ns.length ≤ 63 ∧ k (.dat (.bool true))
theorem ok_law (Y : Fs K mg) : FnOk P w K mg base CX0 10 Y.f_law Y.d_law ["_law_script"] (spN K C_law) := by
  have G_law_box := ok_law_box (P := P) (w := w) (base := base) Y
  have G_law_right := ok_law_right (P := P) (w := w) (base := base) Y
  refine fnN (k := 9) Y.F_law sc_law (fun rs kk ⟨_, e, _⟩ => by rw [e]; rfl) (fun cdv A outer s H E hr => ⟨_, (pdss_cons (pds_for PassesOwn.never rfl (pdi_range1 (by rfl) Y.m_range (pda_cons pd_int pda_nil)) (pdg_name (ws := [1]) 1 sc_law.nd (by decide) rfl (.inl rfl)) (pdss_cons (pds_set (i := 2) sc_law.nd rfl (.inr rfl) (pd_callNO G_law_box (hr.mono (by decide)) (by rfl) Y.m_law_box Y.F_law_box.kp Y.b_law_box (pda_cons (pd_var 0) (pda_cons (pd_var 1) pda_nil))))
      (pdss_one (pds_if (pdt_not (pdt_val (pd_all1 rfl (by rfl) Y.m_all (pda_cons (pd_lc rfl sc_law.nd (pdi_range1 (by rfl) Y.m_range (pda_cons pd_int pda_nil)) (blkOk_by (own := [("_law_turn", 3)]) (N := N_law) (sc := defScope s_law) (by decide +kernel)) (fun _ _ _ _ _ => (pdg_name (ws := [3]) 3 sc_law.nd (by decide) rfl (.inl rfl))) (fun _ _ _ _ _ => pdts_nil) (fun _ _ _ _ _ => (pd_callBx G_law_right (hr.mono (by decide)) (by rfl) Y.m_law_right Y.F_law_right.kp Y.b_law_right (pda_cons (pd_var 2) pda_nil)))) pda_nil)))) (pdss_one (pds_ret pd_bool)) pdss_nil))))
      (pdss_one (pds_ret pd_bool))), fun rs kk h => ?_⟩)
  obtain ⟨ns, rfl, h⟩ := h
  obtain ⟨hl, hk⟩ := h
  refine ⟨2, rfl, by decide, by decide, ?_⟩
  rw [show (2 : Int).toNat = 2 from rfl, rng0]
  refine for_inv (fun i g => ∃ (a b c : Option R) (ce : List Ct), g = ⟨[some (.s ns), a, b, c], ce⟩) ⟨none, none, none, [], rfl⟩ (fun i z g hz hI => ?_) (fun g hI => ?_)
  · obtain ⟨a, b, c, ce, rfl⟩ := hI
    have hz2 : z < 2 := List.mem_range.mp (List.mem_of_getElem? hz)
    refine ⟨_, rfl, _, rfl, by simp [noO], ns, z, rfl, by omega, fun bx hb => ?_⟩
    refine ⟨2, rfl, by decide, by decide, ?_⟩
    rw [show (2 : Int).toNat = 2 from rfl, rng0]
    refine lc_inv (emb := fun (i : Nat) => PyData.int (i : Int)) (xs := List.range 2) (fun j acc ce' => ∃ bx, acc = (List.replicate j true).map PyData.bool ∧ ce' = ce ++ [.lst bx] ∧ BoxOk (1000 * j) bx) ⟨bx, rfl, rfl, hb⟩ (fun j acc ce' hI hj => ?_) (fun j p acc ce' hp hI => ?_) (fun acc ce' hI => ?_)
    · obtain ⟨bx2, rfl, _, _⟩ := hI
      rw [List.length_range] at hj
      rw [List.length_map, List.length_replicate]
      omega
    · obtain ⟨bx2, rfl, rfl, hb2⟩ := hI
      have hj : j < 2 := by have := (List.getElem?_eq_some_iff.mp hp).1; rw [List.length_range] at this; exact this
      refine ⟨_, rfl, ce.length, bx2, [], rfl, by simp, by simp, _, rfl, hb2, by omega, fun bx3 hb3 => ⟨_, rfl, bx3, ?_, ?_, hb3.mono (by omega)⟩⟩
      · rw [List.replicate_succ', List.map_append]
        rfl
      · exact set_last
    obtain ⟨bx2, rfl, rfl, hb2⟩ := hI
    refine ⟨_, List.replicate (List.range 2).length true, rfl, rfl, _, rfl, ?_⟩
    exact ⟨_, _, _, _, rfl⟩
  · obtain ⟨a, b, c, ce, rfl⟩ := hI
    exact hk
end
def e_look_same : He.DefD := ⟨("look_same", none), "look_same", "look_same", defArgs s_look_same, defBody s_look_same, defScope s_look_same, [], []⟩
def e_are_lower : He.DefD := ⟨("are_lower", none), "are_lower", "are_lower", defArgs s_are_lower, defBody s_are_lower, defScope s_are_lower, [], []⟩
def e_sees_at : He.DefD := ⟨("sees_at", none), "sees_at", "sees_at", defArgs s_sees_at, defBody s_sees_at, defScope s_sees_at, [], []⟩
def e_sights : He.DefD := ⟨("sights", none), "sights", "sights", defArgs s_sights, defBody s_sights, defScope s_sights, [], []⟩
def e_exchanges : He.DefD := ⟨("exchanges", none), "exchanges", "exchanges", defArgs s_exchanges, defBody s_exchanges, defScope s_exchanges, [], []⟩
def e_look_exchange : He.DefD := ⟨("look_exchange", none), "look_exchange", "look_exchange", defArgs s_look_exchange, defBody s_look_exchange, defScope s_look_exchange, [], []⟩
def e_swapped : He.DefD := ⟨("swapped", none), "swapped", "swapped", defArgs s_swapped, defBody s_swapped, defScope s_swapped, [], []⟩
def e_exchanged : He.DefD := ⟨("exchanged", none), "exchanged", "exchanged", defArgs s_exchanged, defBody s_exchanged, defScope s_exchanged, [], []⟩
def e_mover : He.DefD := ⟨("mover", none), "mover", "mover", defArgs s_mover, defBody s_mover, defScope s_mover, [], []⟩
def e_rest_row : He.DefD := ⟨("rest_row", none), "rest_row", "rest_row", defArgs s_rest_row, defBody s_rest_row, defScope s_rest_row, [], []⟩
def e_code_of : He.DefD := ⟨("code_of", none), "code_of", "code_of", defArgs s_code_of, defBody s_code_of, defScope s_code_of, [], []⟩
def e_codes : He.DefD := ⟨("codes", none), "codes", "codes", defArgs s_codes, defBody s_codes, defScope s_codes, [], []⟩
def e_run_at : He.DefD := ⟨("run_at", none), "run_at", "run_at", defArgs s_run_at, defBody s_run_at, defScope s_run_at, [], []⟩
def e_next_runs : He.DefD := ⟨("next_runs", none), "next_runs", "next_runs", defArgs s_next_runs, defBody s_next_runs, defScope s_next_runs, [], []⟩
def e_all_lists : He.DefD := ⟨("all_lists", none), "all_lists", "all_lists", defArgs s_all_lists, defBody s_all_lists, defScope s_all_lists, [], []⟩
def e_runs : He.DefD := ⟨("runs", none), "runs", "runs", defArgs s_runs, defBody s_runs, defScope s_runs, [], []⟩
def e_bar_of : He.DefD := ⟨("bar_of", none), "bar_of", "bar_of", defArgs s_bar_of, defBody s_bar_of, defScope s_bar_of, [], []⟩
def e_bar : He.DefD := ⟨("bar", none), "bar", "bar", defArgs s_bar, defBody s_bar, defScope s_bar, [], []⟩
def e_leads : He.DefD := ⟨("leads", none), "leads", "leads", defArgs s_leads, defBody s_leads, defScope s_leads, [], []⟩
def e_look_leads : He.DefD := ⟨("look_leads", none), "look_leads", "look_leads", defArgs s_look_leads, defBody s_look_leads, defScope s_look_leads, [], []⟩
def e_differences : He.DefD := ⟨("differences", none), "differences", "differences", defArgs s_differences, defBody s_differences, defScope s_differences, [], []⟩
def e_steps : He.DefD := ⟨("steps", none), "steps", "steps", defArgs s_steps, defBody s_steps, defScope s_steps, [], []⟩
def e_count_rows : He.DefD := ⟨("count_rows", none), "count_rows", "count_rows", defArgs s_count_rows, defBody s_count_rows, defScope s_count_rows, [], []⟩
def e_law_cell_at : He.DefD := ⟨("_law_cell_at", none), "_law_cell_at", "_law_cell_at", defArgs s_law_cell_at, defBody s_law_cell_at, defScope s_law_cell_at, [], []⟩
def e_law_box : He.DefD := ⟨("_law_box", none), "_law_box", "_law_box", defArgs s_law_box, defBody s_law_box, defScope s_law_box, [], []⟩
def e_law_take : He.DefD := ⟨("_law_take", none), "_law_take", "_law_take", defArgs s_law_take, defBody s_law_take, defScope s_law_take, [], []⟩
def e_law_of : He.DefD := ⟨("_law_of", none), "_law_of", "_law_of", defArgs s_law_of, defBody s_law_of, defScope s_law_of, [], []⟩
def e_law_strewn : He.DefD := ⟨("_law_strewn", none), "_law_strewn", "_law_strewn", defArgs s_law_strewn, defBody s_law_strewn, defScope s_law_strewn, [], []⟩
def e_law_souls : He.DefD := ⟨("_law_souls", none), "_law_souls", "_law_souls", defArgs s_law_souls, defBody s_law_souls, defScope s_law_souls, [], []⟩
def e_law_crowd : He.DefD := ⟨("_law_crowd", none), "_law_crowd", "_law_crowd", defArgs s_law_crowd, defBody s_law_crowd, defScope s_law_crowd, [], []⟩
def e_law_right : He.DefD := ⟨("_law_right", none), "_law_right", "_law_right", defArgs s_law_right, defBody s_law_right, defScope s_law_right, [], []⟩
def e_law : He.DefD := ⟨("law", none), "law", "law", defArgs s_law, defBody s_law, defScope s_law, [], []⟩
def fnE : List He.DefD := [e_look_same, e_are_lower, e_sees_at, e_sights, e_exchanges, e_look_exchange, e_swapped, e_exchanged, e_mover, e_rest_row, e_code_of, e_codes, e_run_at, e_next_runs, e_all_lists, e_runs, e_bar_of, e_bar, e_leads, e_look_leads, e_differences, e_steps, e_count_rows, e_law_cell_at, e_law_box, e_law_take, e_law_of, e_law_strewn, e_law_souls, e_law_crowd, e_law_right, e_law]
def faE : List He.Fa := [.glo "look_same", .glo "are_lower", .glo "sees_at", .glo "sights", .glo "exchanges", .glo "look_exchange", .glo "swapped", .glo "exchanged", .glo "mover", .glo "rest_row", .glo "code_of", .glo "codes", .glo "run_at", .glo "next_runs", .glo "all_lists", .glo "runs", .glo "bar_of", .glo "bar", .glo "leads", .glo "look_leads", .glo "differences", .glo "steps", .glo "count_rows", .glo "_law_cell_at", .glo "_law_box", .glo "_law_take", .glo "_law_of", .glo "_law_strewn", .glo "_law_souls", .glo "_law_crowd", .glo "_law_right", .glo "law", .free "len", .free "abs", .free "int", .free "max", .free "min", .free "list", .free "tuple", .free "all", .free "sum", .free "sorted", .free "zip", .free "range"]
def namesE0 : List PySem.Str := ["OtherPeople", "Blocked", "Barred", "look_same", "are_lower", "sees_at", "sights", "exchanges", "look_exchange", "swapped", "exchanged", "mover", "rest_row", "code_of", "codes", "run_at", "next_runs", "all_lists", "runs", "bar_of"]
def namesE1 : List PySem.Str := ["bar", "leads", "look_leads", "differences", "steps", "count_rows", "_law_cell_at", "_law_box", "_law_take", "_law_of", "_law_strewn", "_law_souls", "_law_crowd", "_law_right"]
def namesE : List PySem.Str := namesE0 ++ namesE1
abbrev RE : PySem.W.OpenRow := PySem.W.OpenLaw.row PySem.Challenge.rw_overlooks_k61_whole_one_code_at_a_time
abbrev hkE : PySem.W.Hook := He.hookD 4 faE fnE
def obE (s : PySem.W.SharedT) : He.AlD := He.obsDG 4 faE fnE (HandSHeadRun.getT s)
theorem obE_eq (s : PySem.W.SharedT) : obE s = hkE.obs s.abs := He.obsDG_eq (HandSHeadRun.getT_eq s)
theorem runE (w : World) : HandSHeadRun.RunEq RE (PySem.W.view RE.prog [42]) hkE obE 4000 namesE w := by
  intro os
  kernel_rfl
theorem factsE {P : Program} {w : World} {K : PySem.W.Frag} {h : Heap} {mg : Str → Option Value} {f : Addr} (X : K.In h) (G : h.Ns mainGlobals mg) (hfa : mg ("law" : Str) = some (.ref f)) (c : He.SaysD faE fnE K) :
    ∃ fd : FuncData, (∀ (s : Shared) (v : Value), BindsTo s fd ⟨[v], []⟩ [("_law_script", v)]) ∧ ∀ base : Heap, K.In base → base.Ns mainGlobals mg → FnOk P w K mg base CX0 10 f fd ["_law_script"] (spN K C_law) := by
  obtain ⟨d_look_same, D_look_same⟩ := c.def_ 0 (d := e_look_same) rfl
  obtain ⟨d_are_lower, D_are_lower⟩ := c.def_ 1 (d := e_are_lower) rfl
  obtain ⟨d_sees_at, D_sees_at⟩ := c.def_ 2 (d := e_sees_at) rfl
  obtain ⟨d_sights, D_sights⟩ := c.def_ 3 (d := e_sights) rfl
  obtain ⟨d_exchanges, D_exchanges⟩ := c.def_ 4 (d := e_exchanges) rfl
  obtain ⟨d_look_exchange, D_look_exchange⟩ := c.def_ 5 (d := e_look_exchange) rfl
  obtain ⟨d_swapped, D_swapped⟩ := c.def_ 6 (d := e_swapped) rfl
  obtain ⟨d_exchanged, D_exchanged⟩ := c.def_ 7 (d := e_exchanged) rfl
  obtain ⟨d_mover, D_mover⟩ := c.def_ 8 (d := e_mover) rfl
  obtain ⟨d_rest_row, D_rest_row⟩ := c.def_ 9 (d := e_rest_row) rfl
  obtain ⟨d_code_of, D_code_of⟩ := c.def_ 10 (d := e_code_of) rfl
  obtain ⟨d_codes, D_codes⟩ := c.def_ 11 (d := e_codes) rfl
  obtain ⟨d_run_at, D_run_at⟩ := c.def_ 12 (d := e_run_at) rfl
  obtain ⟨d_next_runs, D_next_runs⟩ := c.def_ 13 (d := e_next_runs) rfl
  obtain ⟨d_all_lists, D_all_lists⟩ := c.def_ 14 (d := e_all_lists) rfl
  obtain ⟨d_runs, D_runs⟩ := c.def_ 15 (d := e_runs) rfl
  obtain ⟨d_bar_of, D_bar_of⟩ := c.def_ 16 (d := e_bar_of) rfl
  obtain ⟨d_bar, D_bar⟩ := c.def_ 17 (d := e_bar) rfl
  obtain ⟨d_leads, D_leads⟩ := c.def_ 18 (d := e_leads) rfl
  obtain ⟨d_look_leads, D_look_leads⟩ := c.def_ 19 (d := e_look_leads) rfl
  obtain ⟨d_differences, D_differences⟩ := c.def_ 20 (d := e_differences) rfl
  obtain ⟨d_steps, D_steps⟩ := c.def_ 21 (d := e_steps) rfl
  obtain ⟨d_count_rows, D_count_rows⟩ := c.def_ 22 (d := e_count_rows) rfl
  obtain ⟨d_law_cell_at, D_law_cell_at⟩ := c.def_ 23 (d := e_law_cell_at) rfl
  obtain ⟨d_law_box, D_law_box⟩ := c.def_ 24 (d := e_law_box) rfl
  obtain ⟨d_law_take, D_law_take⟩ := c.def_ 25 (d := e_law_take) rfl
  obtain ⟨d_law_of, D_law_of⟩ := c.def_ 26 (d := e_law_of) rfl
  obtain ⟨d_law_strewn, D_law_strewn⟩ := c.def_ 27 (d := e_law_strewn) rfl
  obtain ⟨d_law_souls, D_law_souls⟩ := c.def_ 28 (d := e_law_souls) rfl
  obtain ⟨d_law_crowd, D_law_crowd⟩ := c.def_ 29 (d := e_law_crowd) rfl
  obtain ⟨d_law_right, D_law_right⟩ := c.def_ 30 (d := e_law_right) rfl
  obtain ⟨d_law, D_law⟩ := c.def_ 31 (d := e_law) rfl
  have e := hfa.symm.trans (He.glo_ok X G (c.fact 31 (f := .glo "law") rfl))
  cases e
  have b := FunD.bindsA (ps := ["_law_script"]) D_law fun _ _ _ _ _ _ us hl => match us, hl with | [_], _ => rfl
  have F_look_same := fun_of (st := s_look_same) D_look_same
  have b_look_same := F_look_same.binds (ps := ["one", "other"]) fun _ _ _ _ _ _ us hl => match us, hl with | [_, _], _ => rfl
  have F_are_lower := fun_of (st := s_are_lower) D_are_lower
  have b_are_lower := F_are_lower.binds (ps := ["row", "start", "end", "height"]) fun _ _ _ _ _ _ us hl => match us, hl with | [_, _, _, _], _ => rfl
  have F_sees_at := fun_of (st := s_sees_at) D_sees_at
  have b_sees_at := F_sees_at.binds (ps := ["row", "i", "j"]) fun _ _ _ _ _ _ us hl => match us, hl with | [_, _, _], _ => rfl
  have F_sights := fun_of (st := s_sights) D_sights
  have b_sights := F_sights.binds (ps := ["row"]) fun _ _ _ _ _ _ us hl => match us, hl with | [_], _ => rfl
  have F_exchanges := fun_of (st := s_exchanges) D_exchanges
  have b_exchanges := F_exchanges.binds (ps := ["row"]) fun _ _ _ _ _ _ us hl => match us, hl with | [_], _ => rfl
  have F_look_exchange := fun_of (st := s_look_exchange) D_look_exchange
  have b_look_exchange := F_look_exchange.binds (ps := ["row", "pair"]) fun _ _ _ _ _ _ us hl => match us, hl with | [_, _], _ => rfl
  have F_swapped := fun_of (st := s_swapped) D_swapped
  have b_swapped := F_swapped.binds (ps := ["row", "pair"]) fun _ _ _ _ _ _ us hl => match us, hl with | [_, _], _ => rfl
  have F_exchanged := fun_of (st := s_exchanged) D_exchanged
  have b_exchanged := F_exchanged.binds (ps := ["row", "pair"]) fun _ _ _ _ _ _ us hl => match us, hl with | [_, _], _ => rfl
  have F_mover := fun_of (st := s_mover) D_mover
  have b_mover := F_mover.binds (ps := ["row", "pair"]) fun _ _ _ _ _ _ us hl => match us, hl with | [_, _], _ => rfl
  have F_rest_row := fun_of (st := s_rest_row) D_rest_row
  have b_rest_row := F_rest_row.binds (ps := ["row", "height"]) fun _ _ _ _ _ _ us hl => match us, hl with | [_, _], _ => rfl
  have F_code_of := fun_of (st := s_code_of) D_code_of
  have b_code_of := F_code_of.binds (ps := ["row", "height"]) fun _ _ _ _ _ _ us hl => match us, hl with | [_, _], _ => rfl
  have F_codes := fun_of (st := s_codes) D_codes
  have b_codes := F_codes.binds (ps := ["row"]) fun _ _ _ _ _ _ us hl => match us, hl with | [_], _ => rfl
  have F_run_at := fun_of (st := s_run_at) D_run_at
  have b_run_at := F_run_at.binds (ps := ["some", "index"]) fun _ _ _ _ _ _ us hl => match us, hl with | [_, _], _ => rfl
  have F_next_runs := fun_of (st := s_next_runs) D_next_runs
  have b_next_runs := F_next_runs.binds (ps := ["some", "index"]) fun _ _ _ _ _ _ us hl => match us, hl with | [_, _], _ => rfl
  have F_all_lists := fun_of (st := s_all_lists) D_all_lists
  have b_all_lists := F_all_lists.binds (ps := ["row"]) fun _ _ _ _ _ _ us hl => match us, hl with | [_], _ => rfl
  have F_runs := fun_of (st := s_runs) D_runs
  have b_runs := F_runs.binds (ps := ["row"]) fun _ _ _ _ _ _ us hl => match us, hl with | [_], _ => rfl
  have F_bar_of := fun_of (st := s_bar_of) D_bar_of
  have b_bar_of := F_bar_of.binds (ps := ["one", "other"]) fun _ _ _ _ _ _ us hl => match us, hl with | [_, _], _ => rfl
  have F_bar := fun_of (st := s_bar) D_bar
  have b_bar := F_bar.binds (ps := ["one", "other"]) fun _ _ _ _ _ _ us hl => match us, hl with | [_, _], _ => rfl
  have F_leads := fun_of (st := s_leads) D_leads
  have b_leads := F_leads.binds (ps := ["one", "other"]) fun _ _ _ _ _ _ us hl => match us, hl with | [_, _], _ => rfl
  have F_look_leads := fun_of (st := s_look_leads) D_look_leads
  have b_look_leads := F_look_leads.binds (ps := ["one", "other"]) fun _ _ _ _ _ _ us hl => match us, hl with | [_, _], _ => rfl
  have F_differences := fun_of (st := s_differences) D_differences
  have b_differences := F_differences.binds (ps := ["one", "other"]) fun _ _ _ _ _ _ us hl => match us, hl with | [_, _], _ => rfl
  have F_steps := fun_of (st := s_steps) D_steps
  have b_steps := F_steps.binds (ps := ["one", "other"]) fun _ _ _ _ _ _ us hl => match us, hl with | [_, _], _ => rfl
  have F_count_rows := fun_of (st := s_count_rows) D_count_rows
  have b_count_rows := F_count_rows.binds (ps := ["row"]) fun _ _ _ _ _ _ us hl => match us, hl with | [_], _ => rfl
  have F_law_cell_at := fun_of (st := s_law_cell_at) D_law_cell_at
  have b_law_cell_at := F_law_cell_at.binds (ps := ["_law_script", "_law_k"]) fun _ _ _ _ _ _ us hl => match us, hl with | [_, _], _ => rfl
  have F_law_box := fun_of (st := s_law_box) D_law_box
  have b_law_box := F_law_box.binds (ps := ["_law_script", "_law_k"]) fun _ _ _ _ _ _ us hl => match us, hl with | [_, _], _ => rfl
  have F_law_take := fun_of (st := s_law_take) D_law_take
  have b_law_take := F_law_take.binds (ps := ["_law_box_here", "_law_below"]) fun _ _ _ _ _ _ us hl => match us, hl with | [_, _], _ => rfl
  have F_law_of := fun_of (st := s_law_of) D_law_of
  have b_law_of := F_law_of.binds (ps := ["_law_box_here", "_law_some"]) fun _ _ _ _ _ _ us hl => match us, hl with | [_, _], _ => rfl
  have F_law_strewn := fun_of (st := s_law_strewn) D_law_strewn
  have b_law_strewn := F_law_strewn.binds (ps := ["_law_box_here", "_law_some"]) fun _ _ _ _ _ _ us hl => match us, hl with | [_, _], _ => rfl
  have F_law_souls := fun_of (st := s_law_souls) D_law_souls
  have b_law_souls := F_law_souls.binds (ps := ["_law_box_here", "_law_count"]) fun _ _ _ _ _ _ us hl => match us, hl with | [_, _], _ => rfl
  have F_law_crowd := fun_of (st := s_law_crowd) D_law_crowd
  have b_law_crowd := F_law_crowd.binds (ps := ["_law_box_here", "_law_most"]) fun _ _ _ _ _ _ us hl => match us, hl with | [_, _], _ => rfl
  have F_law_right := fun_of (st := s_law_right) D_law_right
  have b_law_right := F_law_right.binds (ps := ["_law_box_here"]) fun _ _ _ _ _ _ us hl => match us, hl with | [_], _ => rfl
  have F_law := fun_of (st := s_law) D_law
  have b_law := F_law.binds (ps := ["_law_script"]) fun _ _ _ _ _ _ us hl => match us, hl with | [_], _ => rfl
  exact ⟨d_law, fun s v => b s [v] rfl, fun base _ _ => ok_law { f_look_same := _, d_look_same := d_look_same, F_look_same := F_look_same, m_look_same := He.glo_ok X G (c.fact 0 (f := .glo "look_same") rfl), b_look_same := b_look_same, f_are_lower := _, d_are_lower := d_are_lower, F_are_lower := F_are_lower, m_are_lower := He.glo_ok X G (c.fact 1 (f := .glo "are_lower") rfl), b_are_lower := b_are_lower, f_sees_at := _, d_sees_at := d_sees_at, F_sees_at := F_sees_at, m_sees_at := He.glo_ok X G (c.fact 2 (f := .glo "sees_at") rfl), b_sees_at := b_sees_at, f_sights := _, d_sights := d_sights, F_sights := F_sights, m_sights := He.glo_ok X G (c.fact 3 (f := .glo "sights") rfl), b_sights := b_sights, f_exchanges := _, d_exchanges := d_exchanges, F_exchanges := F_exchanges, m_exchanges := He.glo_ok X G (c.fact 4 (f := .glo "exchanges") rfl), b_exchanges := b_exchanges, f_look_exchange := _, d_look_exchange := d_look_exchange, F_look_exchange := F_look_exchange, m_look_exchange := He.glo_ok X G (c.fact 5 (f := .glo "look_exchange") rfl), b_look_exchange := b_look_exchange, f_swapped := _, d_swapped := d_swapped, F_swapped := F_swapped, m_swapped := He.glo_ok X G (c.fact 6 (f := .glo "swapped") rfl), b_swapped := b_swapped, f_exchanged := _, d_exchanged := d_exchanged, F_exchanged := F_exchanged, m_exchanged := He.glo_ok X G (c.fact 7 (f := .glo "exchanged") rfl), b_exchanged := b_exchanged, f_mover := _, d_mover := d_mover, F_mover := F_mover, m_mover := He.glo_ok X G (c.fact 8 (f := .glo "mover") rfl), b_mover := b_mover, f_rest_row := _, d_rest_row := d_rest_row, F_rest_row := F_rest_row, m_rest_row := He.glo_ok X G (c.fact 9 (f := .glo "rest_row") rfl), b_rest_row := b_rest_row, f_code_of := _, d_code_of := d_code_of, F_code_of := F_code_of, m_code_of := He.glo_ok X G (c.fact 10 (f := .glo "code_of") rfl), b_code_of := b_code_of, f_codes := _, d_codes := d_codes, F_codes := F_codes, m_codes := He.glo_ok X G (c.fact 11 (f := .glo "codes") rfl), b_codes := b_codes, f_run_at := _, d_run_at := d_run_at, F_run_at := F_run_at, m_run_at := He.glo_ok X G (c.fact 12 (f := .glo "run_at") rfl), b_run_at := b_run_at, f_next_runs := _, d_next_runs := d_next_runs, F_next_runs := F_next_runs, m_next_runs := He.glo_ok X G (c.fact 13 (f := .glo "next_runs") rfl), b_next_runs := b_next_runs, f_all_lists := _, d_all_lists := d_all_lists, F_all_lists := F_all_lists, m_all_lists := He.glo_ok X G (c.fact 14 (f := .glo "all_lists") rfl), b_all_lists := b_all_lists, f_runs := _, d_runs := d_runs, F_runs := F_runs, m_runs := He.glo_ok X G (c.fact 15 (f := .glo "runs") rfl), b_runs := b_runs, f_bar_of := _, d_bar_of := d_bar_of, F_bar_of := F_bar_of, m_bar_of := He.glo_ok X G (c.fact 16 (f := .glo "bar_of") rfl), b_bar_of := b_bar_of, f_bar := _, d_bar := d_bar, F_bar := F_bar, m_bar := He.glo_ok X G (c.fact 17 (f := .glo "bar") rfl), b_bar := b_bar, f_leads := _, d_leads := d_leads, F_leads := F_leads, m_leads := He.glo_ok X G (c.fact 18 (f := .glo "leads") rfl), b_leads := b_leads, f_look_leads := _, d_look_leads := d_look_leads, F_look_leads := F_look_leads, m_look_leads := He.glo_ok X G (c.fact 19 (f := .glo "look_leads") rfl), b_look_leads := b_look_leads, f_differences := _, d_differences := d_differences, F_differences := F_differences, m_differences := He.glo_ok X G (c.fact 20 (f := .glo "differences") rfl), b_differences := b_differences, f_steps := _, d_steps := d_steps, F_steps := F_steps, m_steps := He.glo_ok X G (c.fact 21 (f := .glo "steps") rfl), b_steps := b_steps, f_count_rows := _, d_count_rows := d_count_rows, F_count_rows := F_count_rows, m_count_rows := He.glo_ok X G (c.fact 22 (f := .glo "count_rows") rfl), b_count_rows := b_count_rows, f_law_cell_at := _, d_law_cell_at := d_law_cell_at, F_law_cell_at := F_law_cell_at, m_law_cell_at := He.glo_ok X G (c.fact 23 (f := .glo "_law_cell_at") rfl), b_law_cell_at := b_law_cell_at, f_law_box := _, d_law_box := d_law_box, F_law_box := F_law_box, m_law_box := He.glo_ok X G (c.fact 24 (f := .glo "_law_box") rfl), b_law_box := b_law_box, f_law_take := _, d_law_take := d_law_take, F_law_take := F_law_take, m_law_take := He.glo_ok X G (c.fact 25 (f := .glo "_law_take") rfl), b_law_take := b_law_take, f_law_of := _, d_law_of := d_law_of, F_law_of := F_law_of, m_law_of := He.glo_ok X G (c.fact 26 (f := .glo "_law_of") rfl), b_law_of := b_law_of, f_law_strewn := _, d_law_strewn := d_law_strewn, F_law_strewn := F_law_strewn, m_law_strewn := He.glo_ok X G (c.fact 27 (f := .glo "_law_strewn") rfl), b_law_strewn := b_law_strewn, f_law_souls := _, d_law_souls := d_law_souls, F_law_souls := F_law_souls, m_law_souls := He.glo_ok X G (c.fact 28 (f := .glo "_law_souls") rfl), b_law_souls := b_law_souls, f_law_crowd := _, d_law_crowd := d_law_crowd, F_law_crowd := F_law_crowd, m_law_crowd := He.glo_ok X G (c.fact 29 (f := .glo "_law_crowd") rfl), b_law_crowd := b_law_crowd, f_law_right := _, d_law_right := d_law_right, F_law_right := F_law_right, m_law_right := He.glo_ok X G (c.fact 30 (f := .glo "_law_right") rfl), b_law_right := b_law_right, f_law := _, d_law := d_law, F_law := F_law, m_law := He.glo_ok X G (c.fact 31 (f := .glo "law") rfl), b_law := b_law, m_len := He.free_ok X G (c.fact 32 (f := .free "len") rfl), m_abs := He.free_ok X G (c.fact 33 (f := .free "abs") rfl), m_int := He.free_ok X G (c.fact 34 (f := .free "int") rfl), m_max := He.free_ok X G (c.fact 35 (f := .free "max") rfl), m_min := He.free_ok X G (c.fact 36 (f := .free "min") rfl), m_list := He.free_ok X G (c.fact 37 (f := .free "list") rfl), m_tuple := He.free_ok X G (c.fact 38 (f := .free "tuple") rfl), m_all := He.free_ok X G (c.fact 39 (f := .free "all") rfl), m_sum := He.free_ok X G (c.fact 40 (f := .free "sum") rfl), m_sorted := He.free_ok X G (c.fact 41 (f := .free "sorted") rfl), m_zip := He.free_ok X G (c.fact 42 (f := .free "zip") rfl), m_range := He.free_ok X G (c.fact 43 (f := .free "range") rfl) }⟩
end LawP
open PySem PySem.W PySem.Calls PyProof.Rows
theorem PySem.Challenge.cw_overlooks_k61_whole_one_code_at_a_time_holds : PySem.Challenge.rw_overlooks_k61_whole_one_code_at_a_time.Holds := by
  w_on; o_law
  refine HandSHeadRun.head_any (r := OpenLaw.row PySem.Challenge.rw_overlooks_k61_whole_one_code_at_a_time) (q := view (OpenLaw.row PySem.Challenge.rw_overlooks_k61_whole_one_code_at_a_time).prog [42]) (H := LawP.hkE) (ob := LawP.obE) (M := 4000) (loose := LawP.namesE) (d := HandSHeadRun.topDef (OpenLaw.row PySem.Challenge.rw_overlooks_k61_whole_one_code_at_a_time).prog 42) (kwd := []) LawP.obE_eq
    (by kernel_rfl) (fun s => by kernel_rfl) LawP.runE (by kernel_rfl) (by kernel_rfl) (by kernel_rfl) (by rfl) (by first | assumption | decide +kernel) (by decide +kernel) ⟨rfl, rfl, rfl, rfl, rfl, by decide +kernel⟩ ?hw ?hc
  case hw => w_witness2
  case hc =>
    refine L2.walk_ofE (l := PySem.Challenge.rw_overlooks_k61_whole_one_code_at_a_time) (n := 63) (k := 10) (x := "_law_script") (CX := L2.CX0) rfl (by decide) (by kernel_rfl) ⟨rfl, by decide, by decide⟩ ?F (fun _ _ _ _ z => z)
    intro w mg fa h Y G hmg0
    obtain ⟨K, KX, c⟩ := Y
    have hmg : mg ("law" : PySem.Str) = some (.ref fa) := by
      have e : (HandSHeadRun.topDef (OpenLaw.row PySem.Challenge.rw_overlooks_k61_whole_one_code_at_a_time).prog 42).name = ("law" : PySem.Str) := by kernel_rfl
      rw [← e]
      exact hmg0
    obtain ⟨fd, hb, hF⟩ := LawP.factsE (P := (PySem.Challenge.rw_overlooks_k61_whole_one_code_at_a_time).prog) (w := w) KX G hmg c
    exact ⟨K, fd, DL.spN K LawP.C_law, KX, hb, fun H a ns hl _ hS => DL.law_in hS fun kk hk => ⟨ns, rfl, hl, hk⟩, hF⟩

