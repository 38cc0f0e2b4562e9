import PyProof.Rows.All
import Wide.All
import OpenK.AllK
import Wide.FinOn
import HandS.ForMost
import HandS.ForExc
import HandS.Deep
import HandS.Style
import HandS.SortInts
import HandS.More
import HandS.Flow
import KE.KeyNested
import HandS.TupAny
import HandS.Wide
import HandS.SortOrd
import HandS.Exc
import HandS.ExcOwn
import KE.GoesZip
import KE.GoesEnum
import KE.GoesEnumKw
import KE.KDictZip
import PyProof.ListNew
import HandS.ListItems
import HandS.Head2
import HandS.HeadEnd
import HandS.HeadHook1
import HandS.HeadHook2
import HandS.IsInst
import KE.KRevSl
import KE.KTryMore
import HandS.ExcCtx
import HandS.Keys
import KE.KExcInit
import HandS.ExcInit
import HandS.FStr
import HandS.FStrTup
import PyProof.ReprRoads
import PyProof.CallFns
import HandS.ExcField
import HandS.ExcIs
import HandS.Conv
import HandS.TryOnly
import HandS.TupSets
import HandS.List
import KE.KSortTup
import HandS.SortRule
import HandS.TupMul
import PyProof.CallStr
import PyProof.ReprLen
import HandS.SetFor
import KE.KDictDisplayH
import HandS.TupLen
import HandS.DictSubView
import KE.KSortTupG
import KE.KDictMeth
import HandS.TupLe
import HandS.SortKw
import KE.KSortKey
import HandS.DictTup
import KE.KDictCopyH
import KE.KDictSum
import PySem.Challenge.RW_overlooks_k23_numbers_of_lots
set_option Elab.async false
set_option linter.all false
set_option maxRecDepth 100000
set_option maxHeartbeats 4000000
set_option autoImplicit false
namespace DL
open PySem PySem.Spec PyProof.Rows L2
/-- what an own cell holds -/
inductive Ct where
  | dead
  | lst (ds : List PyData)
  | dK (kvs : List (Key × PyData))
  | dT (kvs : List (List Key × PyData))
  | dN (kvs : List (NestedKey × PyData))
  | dL (kvs : List (NestedKey × PyData))
  | dF (kvs : List (Key × PyData))
/-- an error: its class (a class of the text), its own fields -/
structure Xn where
  cls : Str
  fld : List (Str × PyData)
/-- a value: data, the own cell j, the script, an error, a shared dict -/
inductive R where
  | d (x : PyData)
  | o (j : Nat)
  | s (ns : List Int)
  | x (n : Xn)
  | m (ct : Ct)
  | l (js : List Nat)
structure G where
  sl : List (Option R)
  ce : List Ct
abbrev DE := G → (R → G → Prop) → Prop
abbrev DT := G → (Bool → G → Prop) → Prop
abbrev DA := G → (List R → G → Prop) → Prop
structure DEnds where
  nx : G → Prop
  rt : R → G → Prop
  bk : G → Prop := fun _ => False
  ct : G → Prop := fun _ => False
abbrev DS := DEnds → G → Prop
abbrev DG := R → G → (G → Prop) → Prop
mutual
/-- v is the data x, every list and tuple tracked in B -/
inductive Dq (B : Hp) : V → PyData → Prop
  | non : Dq B .non .none
  | bl (b : Bool) : Dq B (.bl b) (.bool b)
  | int (i : Int) : Dq B (.int i) (.int i)
  | str (x : Str) : Dq B (.str x) (.str x)
  | lst {a : Addr} {xs : List V} {ds : List PyData} : B a = some (.lst xs) → DqAll B xs ds → Dq B (.ref a) (.list ds)
  | tup {a : Addr} {xs : List V} {ds : List PyData} : B a = some (.tup xs) → DqAll B xs ds → Dq B (.ref a) (.tuple ds)
inductive DqAll (B : Hp) : List V → List PyData → Prop
  | nil : DqAll B [] []
  | cons {v : V} {vs : List V} {d : PyData} {ds : List PyData} : Dq B v d → DqAll B vs ds → DqAll B (v :: vs) (d :: ds)
end
/-- where the def itself stands: its callers' facts, as they were when it was called -/
structure Root where
  B : Hp
  O : Hp
  P : List Addr
  cl : Str → Addr
structure KR where
  fr : PySem.W.Frag
  rt : Root
/-- an error's own fields -/
def XnF (B : Hp) (n : Xn) (d : Option Addr) : Prop := n.fld = [] ∧ d = none ∨ ∃ d0 us, d = some d0 ∧ B d0 = some (.xd us) ∧ Paired (fun (p : Str × V) (q : Str × PyData) => p.1 = q.1 ∧ Dq B p.2 q.2) us n.fld
/-- an error that has been caught: its record -/
def excO (a C : Addr) (d : Option Addr) : HO := .ext fun h => ∃ (o : Obj) (vs : Array Value), h.get? a = some o ∧ o.cls = .ref C ∧ o.dict = d ∧ o.data = .fields vs
mutual
def plainN : NestedKey → Bool
  | .num _ => true
  | .tup ks => plainNs ks
  | _ => false
def plainNs : List NestedKey → Bool
  | [] => true
  | k :: ks => plainN k && plainNs ks
end
def entN (w : World) (x : NestedKey × Addr × Value) : DictEntry := ⟨x.1.hash w, .ref x.2.1, x.2.2⟩
abbrev NV (us : List (NestedKey × Addr × V)) (zs : List (NestedKey × Addr × Value)) : Prop := Paired (fun (p : NestedKey × Addr × V) (q : NestedKey × Addr × Value) => p.1 = q.1 ∧ p.2.1 = q.2.1 ∧ RelV p.2.2 q.2.2) us zs
/-- a dict whose keys are tuples of whole numbers, nested -/
def dnP (a : Addr) (us : List (NestedKey × Addr × V)) (h : Heap) : Prop := us.length ≤ sizeLine ∧ (a == sysModules) = false ∧ (∀ u ∈ us, plainN u.1 = true ∧ u.1.depth ≤ 8) ∧ (us.map (·.1)).Nodup ∧ ∃ zs, NV us zs ∧
  ∃ o es ep, h.get? a = some o ∧ o.ExactDict ∧ o.data = .dict es ep ∧ ∀ w : World, es.toList = zs.map (entN w)
def dnO (a : Addr) (us : List (NestedKey × Addr × V)) : HO := .ext (dnP a us)
abbrev NOk (B : Hp) : List (NestedKey × Addr × V) → List (NestedKey × PyData) → Prop := Paired fun (p : NestedKey × Addr × V) (q : NestedKey × PyData) => p.1 = q.1 ∧ Dq B (.ref p.2.1) p.1.data ∧ Dq B p.2.2 q.2
def CtOk (K : KR) (B : Hp) (al : List Addr) (H : Hp) (a : Addr) : Ct → Prop
  | .dead => ∃ o, H a = some o ∧ ∀ us, o ≠ .tup us
  | .lst ds => ∃ xs, H a = some (.lst xs) ∧ DqAll B xs ds
  | .dK kvs => ∃ us, H a = some (.dK us) ∧ Paired (fun (p : Key × V) (q : Key × PyData) => p.1 = q.1 ∧ Dq B p.2 q.2) us kvs
  | .dT kvs => ∃ us, H a = some (.dT us) ∧ Paired (fun (p : List Key × V) (q : List Key × PyData) => p.1 = q.1 ∧ Dq B p.2 q.2) us kvs
  | .dN kvs => ∃ us, H a = some (dnO a us) ∧ NOk B us kvs
  | .dL kvs => ∃ o us, H a = some (.frz o (dnO a us)) ∧ NOk B us kvs
  | .dF kvs => ∃ o us, H a = some (.frz o (.dK us)) ∧ Paired (fun (p : Key × V) (q : Key × PyData) => p.1 = q.1 ∧ Dq B p.2 q.2) us kvs
def RvOk (K : KR) (B : Hp) (al : List Addr) (v : V) : R → Prop
  | .d x => Dq B v x
  | .s ns => ∃ a, v = .ref a ∧ SqL K.fr B a (ns.map V.int)
  | .o j => ∃ a, al[j]? = some a ∧ v = .ref a
  | .x n => ∃ a d, v = .ref a ∧ B a = some (excO a (K.rt.cl n.cls) d) ∧ XnF B n d
  | .m ct => ∃ a, v = .ref a ∧ ct ≠ .dead ∧ CtOk K B al B a ct
  | .l js => ∃ p xs, v = .ref p ∧ B p = some (.lst xs) ∧ Paired (fun (x : V) (j : Nat) => ∃ a, al[j]? = some a ∧ x = V.ref a) xs js
/-- the callers: shared facts, own things, the cells handed in -/
structure Fm where
  B : Hp
  O : Hp
  P : List Addr
structure Stt (K : KR) (F : Fm) (g : G) (ts : List (V × R)) (s : L2.St) (H B : Hp) (al : List Addr) : Prop where
  rb : Same K.rt.B F.B
  ro : ∀ a o, K.rt.O a = some o → F.O a = some o
  rp : K.rt.P = F.P
  ot : ∀ a us, F.O a ≠ some (.tup us)
  fb : Same F.B B
  bh : Same B H
  fo : ∀ a o, F.O a = some o → H a = some o ∧ B a = none ∧ a ∉ al
  pre : ∃ t, al = F.P ++ t
  len : al.length = g.ce.length
  nd : al.Nodup
  lv : ∀ a ∈ al, ∃ o, H a = some o
  nb : ∀ (j : Nat) (a : Addr) (ct : Ct), al[j]? = some a → g.ce[j]? = some ct → ct ≠ Ct.dead → B a = none
  ce : ∀ (j : Nat) (a : Addr) (ct : Ct), al[j]? = some a → g.ce[j]? = some ct → CtOk K B al H a ct
  sl : ∀ (i : Nat) (r : R), g.sl[i]? = some (some r) → ∃ v, s[i]? = some (some v) ∧ RvOk K B al v r
  tm : ∀ p ∈ ts, RvOk K B al p.1 p.2
  sln : g.sl.length = s.length
theorem same_l {K : PySem.W.Frag} {H H' : Hp} {a : Addr} {xs : List V} (e : Same H H') (h : SqL K H a xs) : SqL K H' a xs := e.seq h
theorem same_t {K : PySem.W.Frag} {H H' : Hp} {a : Addr} {xs : List V} (e : Same H H') (h : SqT K H a xs) : SqT K H' a xs := by
  rcases h with (h | ⟨o, h⟩) | h
  · exact .inl (.inl (e _ _ h))
  · exact .inl (.inr ⟨o, e _ _ h⟩)
  · exact .inr h
mutual
theorem dq_mono {H H' : Hp} (e : Same H H') : ∀ {v : V} {x : PyData}, Dq H v x → Dq H' v x
  | _, _, .non => .non
  | _, _, .bl b => .bl b
  | _, _, .int i => .int i
  | _, _, .str x => .str x
  | _, _, .lst h r => .lst (e _ _ h) (dqall_mono e r)
  | _, _, .tup h r => .tup (e _ _ h) (dqall_mono e r)
theorem dqall_mono {H H' : Hp} (e : Same H H') : ∀ {vs : List V} {xs : List PyData}, DqAll H vs xs → DqAll H' vs xs
  | _, _, .nil => .nil
  | _, _, .cons a b => .cons (dq_mono e a) (dqall_mono e b)
end
mutual
theorem dq_dp {K : PySem.W.Frag} {H : Hp} : ∀ {v : V} {x : PyData}, Dq H v x → Dp K H v x
  | _, _, .non => .non
  | _, _, .bl b => .bl b
  | _, _, .int i => .int i
  | _, _, .str x => .str x
  | _, _, .lst h r => .lst (.inl (.inl h)) (dqall_dp r)
  | _, _, .tup h r => .tup (.inl (.inl h)) (dqall_dp r)
theorem dqall_dp {K : PySem.W.Frag} {H : Hp} : ∀ {vs : List V} {xs : List PyData}, DqAll H vs xs → DpAll K H vs xs
  | _, _, .nil => .nil
  | _, _, .cons a b => .cons (dq_dp a) (dqall_dp b)
end
theorem same_new {H : Hp} {p : Addr} {o : HO} (h : H p = none) : Same H (upd H p o) := fun b x e => by
  rw [upd_ne (ne_of_none e h)]
  exact e
theorem same_mut {H H' : Hp} {p : Addr} {o : HO} (e : Same H H') (h : H p = none) : Same H (upd H' p o) := fun b x q => by
  rw [upd_ne (ne_of_none q h)]
  exact e _ _ q
theorem paired_imp {α β : Type} {F F' : α → β → Prop} (h : ∀ a b, F a b → F' a b) : ∀ {xs : List α} {ys : List β}, Paired F xs ys → Paired F' xs ys
  | _, _, .nil => .nil
  | _, _, .cons a b => .cons (h _ _ a) (paired_imp h b)
/-- a cell's fact under a growing base, the cell itself as it was -/
theorem ct_mono {K : KR} {B B' H H' : Hp} {al t : List Addr} {a : Addr} {ct : Ct} (e : Same B B') (hh : ∀ o, H a = some o → H' a = some o) (h : CtOk K B al H a ct) : CtOk K B' (al ++ t) H' a ct := by
  cases ct with
  | dead =>
    obtain ⟨o, h1, h2⟩ := h
    exact ⟨o, hh _ h1, h2⟩
  | lst rs =>
    obtain ⟨xs, h1, h2⟩ := h
    exact ⟨xs, hh _ h1, dqall_mono e h2⟩
  | dK kvs =>
    obtain ⟨xs, h1, h2⟩ := h
    exact ⟨xs, hh _ h1, paired_imp (fun _ _ z => ⟨z.1, dq_mono e z.2⟩) h2⟩
  | dT kvs =>
    obtain ⟨xs, h1, h2⟩ := h
    exact ⟨xs, hh _ h1, paired_imp (fun _ _ z => ⟨z.1, dq_mono e z.2⟩) h2⟩
  | dN kvs =>
    obtain ⟨xs, h1, h2⟩ := h
    exact ⟨xs, hh _ h1, paired_imp (fun _ _ z => ⟨z.1, dq_mono e z.2.1, dq_mono e z.2.2⟩) h2⟩
  | dL kvs =>
    obtain ⟨o, xs, h1, h2⟩ := h
    exact ⟨o, xs, hh _ h1, paired_imp (fun _ _ z => ⟨z.1, dq_mono e z.2.1, dq_mono e z.2.2⟩) h2⟩
  | dF kvs =>
    obtain ⟨o, xs, h1, h2⟩ := h
    exact ⟨o, xs, hh _ h1, paired_imp (fun _ _ z => ⟨z.1, dq_mono e z.2⟩) h2⟩
theorem ct_mono0 {K : KR} {B B' H H' : Hp} {al : List Addr} {a : Addr} {ct : Ct} (e : Same B B') (hh : ∀ o, H a = some o → H' a = some o) (h : CtOk K B al H a ct) : CtOk K B' al H' a ct := by
  have z := ct_mono (t := []) e hh h
  rw [List.append_nil] at z
  exact z
theorem ct_box {K : KR} {B H : Hp} {al : List Addr} {a : Addr} {ct : Ct} (h : CtOk K B al H a ct) : ∃ o, H a = some o ∧ ∀ us, o ≠ .tup us := by
  cases ct with
  | dead => exact h
  | lst rs => obtain ⟨xs, h1, _⟩ := h; exact ⟨_, h1, fun us z => nomatch z⟩
  | dK rs => obtain ⟨xs, h1, _⟩ := h; exact ⟨_, h1, fun us z => nomatch z⟩
  | dT rs => obtain ⟨xs, h1, _⟩ := h; exact ⟨_, h1, fun us z => nomatch z⟩
  | dN rs => obtain ⟨xs, h1, _⟩ := h; exact ⟨_, h1, fun us z => nomatch z⟩
  | dL rs => obtain ⟨_, xs, h1, _⟩ := h; exact ⟨_, h1, fun us z => nomatch z⟩
  | dF rs => obtain ⟨_, xs, h1, _⟩ := h; exact ⟨_, h1, fun us z => nomatch z⟩
theorem xnf_mono {B B' : Hp} {n : Xn} {d : Option Addr} (e : Same B B') : XnF B n d → XnF B' n d := fun h => by
  rcases h with h | ⟨d0, us, h1, h2, h3⟩
  · exact .inl h
  · exact .inr ⟨d0, us, h1, e _ _ h2, paired_imp (fun _ _ z => ⟨z.1, dq_mono e z.2⟩) h3⟩
theorem rv_mono {K : KR} {B B' : Hp} {al t : List Addr} {v : V} {r : R} (e : Same B B') (h : RvOk K B al v r) : RvOk K B' (al ++ t) v r := by
  cases r with
  | d x => exact dq_mono e h
  | s ns =>
    obtain ⟨a, hv, h2⟩ := h
    exact ⟨a, hv, same_l e h2⟩
  | o j =>
    obtain ⟨a, ha, hv⟩ := h
    refine ⟨a, ?_, hv⟩
    rw [List.getElem?_append_left (List.getElem?_eq_some_iff.mp ha).1]
    exact ha
  | x n =>
    obtain ⟨a, d, hv, h1, h2⟩ := h
    exact ⟨a, d, hv, e _ _ h1, xnf_mono e h2⟩
  | m ct =>
    obtain ⟨a, hv, h1, h2⟩ := h
    exact ⟨a, hv, h1, ct_mono e (fun o q => e _ _ q) h2⟩
  | l js =>
    obtain ⟨p, xs, hv, h1, h2⟩ := h
    refine ⟨p, xs, hv, e _ _ h1, ?_⟩
    clear h1 hv
    induction h2 with
    | nil => exact .nil
    | cons a b ih =>
      obtain ⟨q, hq, ev⟩ := a
      exact .cons ⟨q, by rw [List.getElem?_append_left (List.getElem?_eq_some_iff.mp hq).1]; exact hq, ev⟩ ih
theorem rv_mono0 {K : KR} {B B' : Hp} {al : List Addr} {v : V} {r : R} (e : Same B B') (h : RvOk K B al v r) : RvOk K B' al v r := by
  have z := rv_mono (t := []) e h
  rw [List.append_nil] at z
  exact z
section
variable {K : KR} {F : Fm} {g : G} {tm tm' : List (V × R)} {s : L2.St} {H B : Hp} {al : List Addr}
theorem Stt.temps (S : Stt K F g tm s H B al) (h : ∀ p ∈ tm', p ∈ tm) : Stt K F g tm' s H B al := { S with tm := fun p q => S.tm p (h p q) }
theorem Stt.push (S : Stt K F g tm s H B al) {v : V} {r : R} (h : RvOk K B al v r) : Stt K F g ((v, r) :: tm) s H B al :=
  { S with tm := fun p q => (List.mem_cons.mp q).elim (fun e => by rw [e]; exact h) (fun e => S.tm p e) }
theorem Stt.top (S : Stt K F g tm s H B al) {p : V × R} {t : List (V × R)} (e : tm = p :: t) : RvOk K B al p.1 p.2 := S.tm p (by rw [e]; exact List.mem_cons_self)
theorem Stt.new_out (S : Stt K F g tm s H B al) {p : Addr} (h : H p = none) : p ∉ al := fun q => by
  obtain ⟨o, e⟩ := S.lv p q
  rw [e] at h
  cases h
/-- a new shared object (the base grows) -/
theorem Stt.grow (S : Stt K F g tm s H B al) {p : Addr} {o : HO} (h : H p = none) : Stt K F g tm s (upd H p o) (upd B p o) al := by
  have hB : B p = none := S.bh.free h
  have eB : Same B (upd B p o) := same_new hB
  have eH : Same H (upd H p o) := same_new h
  have nal := S.new_out h
  refine { rb := S.rb, ro := S.ro, rp := S.rp, ot := S.ot, fb := S.fb.trans eB, bh := ?_, fo := ?_, pre := S.pre, len := S.len, nd := S.nd, lv := ?_, nb := ?_, ce := ?_, sl := ?_, tm := ?_, sln := S.sln }
  · intro b u e
    by_cases hb : b = p
    · subst hb; rw [upd_same] at e ⊢; exact e
    · rw [upd_ne hb] at e ⊢; exact S.bh _ _ e
  · intro a u e
    obtain ⟨h1, h2, h3⟩ := S.fo a u e
    have ne : a ≠ p := ne_of_none h1 h
    exact ⟨eH _ _ h1, by rw [upd_ne ne]; exact h2, h3⟩
  · intro a ha
    obtain ⟨u, e⟩ := S.lv a ha
    exact ⟨u, eH _ _ e⟩
  · intro j a ct h1 h2 h3
    have ne : a ≠ p := fun z => nal (z ▸ List.mem_of_getElem? h1)
    rw [upd_ne ne]
    exact S.nb j a ct h1 h2 h3
  · intro j a ct h1 h2
    exact ct_mono0 eB (fun u e => eH _ _ e) (S.ce j a ct h1 h2)
  · intro i r e
    obtain ⟨v, h1, h2⟩ := S.sl i r e
    exact ⟨v, h1, rv_mono0 eB h2⟩
  · intro q hq
    exact rv_mono0 eB (S.tm q hq)
/-- a new own cell -/
theorem Stt.own (S : Stt K F g tm s H B al) {p : Addr} {o : HO} {ct : Ct} (h : H p = none) (hc : CtOk K B al (upd H p o) p ct) : Stt K F { g with ce := g.ce ++ [ct] } tm s (upd H p o) B (al ++ [p]) := by
  have hB : B p = none := S.bh.free h
  have eH : Same H (upd H p o) := same_new h
  have nal := S.new_out h
  obtain ⟨t, ht⟩ := S.pre
  refine { rb := S.rb, ro := S.ro, rp := S.rp, ot := S.ot, fb := S.fb, bh := S.bh.trans eH, fo := ?_, pre := ⟨t ++ [p], by rw [ht, List.append_assoc]⟩, len := by rw [List.length_append, List.length_append, S.len]; rfl, nd := ?_, lv := ?_, nb := ?_, ce := ?_, sl := ?_, tm := ?_, sln := S.sln }
  · intro a u e
    obtain ⟨h1, h2, h3⟩ := S.fo a u e
    refine ⟨eH _ _ h1, h2, fun z => ?_⟩
    rcases List.mem_append.mp z with z | z
    · exact h3 z
    · rw [List.mem_singleton.mp z, h] at h1
      cases h1
  · refine List.nodup_append.mpr ⟨S.nd, by simp, fun a ha b hb => ?_⟩
    rw [List.mem_singleton.mp hb]
    exact fun z => nal (z ▸ ha)
  · intro a ha
    rcases List.mem_append.mp ha with z | z
    · obtain ⟨u, e⟩ := S.lv a z
      exact ⟨u, eH _ _ e⟩
    · rw [List.mem_singleton.mp z]
      exact ⟨o, upd_same⟩
  · intro j a c h1 h2 h3
    by_cases hj : j < al.length
    · rw [List.getElem?_append_left hj] at h1
      rw [List.getElem?_append_left (by rw [← S.len]; exact hj)] at h2
      exact S.nb j a c h1 h2 h3
    · rw [List.getElem?_append_right (by omega)] at h1
      have : a = p := by
        have z := List.mem_of_getElem? h1
        exact List.mem_singleton.mp z
      rw [this]; exact hB
  · intro j a c h1 h2
    by_cases hj : j < al.length
    · rw [List.getElem?_append_left hj] at h1
      rw [List.getElem?_append_left (by rw [← S.len]; exact hj)] at h2
      exact ct_mono (Same.refl B) (fun u e => eH _ _ e) (S.ce j a c h1 h2)
    · rw [List.getElem?_append_right (by omega)] at h1
      rw [List.getElem?_append_right (by rw [← S.len]; omega)] at h2
      have e1 : a = p := List.mem_singleton.mp (List.mem_of_getElem? h1)
      have e2 : c = ct := List.mem_singleton.mp (List.mem_of_getElem? h2)
      subst e1 e2
      exact ct_mono (Same.refl B) (fun u e => e) hc
  · intro i r e
    obtain ⟨v, h1, h2⟩ := S.sl i r e
    exact ⟨v, h1, rv_mono (Same.refl B) h2⟩
  · intro q hq
    exact rv_mono (Same.refl B) (S.tm q hq)
theorem Stt.own_at (S : Stt K F g tm s H B al) {p : Addr} : (al ++ [p])[g.ce.length]? = some p := by
  rw [← S.len, List.getElem?_append_right (Nat.le_refl _), Nat.sub_self]
  rfl
/-- an own cell is changed -/
theorem Stt.put (S : Stt K F g tm s H B al) {j : Nat} {a : Addr} {o : HO} {ct ct' : Ct} (ha : al[j]? = some a) (hc : g.ce[j]? = some ct) (nd : ct ≠ Ct.dead) (hk : CtOk K B al (upd H a o) a ct') : Stt K F { g with ce := g.ce.set j ct' } tm s (upd H a o) B al := by
  have hB := S.nb j a ct ha hc nd
  have ma := List.mem_of_getElem? ha
  refine { rb := S.rb, ro := S.ro, rp := S.rp, ot := S.ot, fb := S.fb, bh := same_mut S.bh hB, fo := ?_, pre := S.pre, len := by rw [List.length_set]; exact S.len, nd := S.nd, lv := ?_, nb := ?_, ce := ?_, sl := S.sl, tm := S.tm, sln := S.sln }
  · intro b u e
    obtain ⟨h1, h2, h3⟩ := S.fo b u e
    have ne : b ≠ a := fun z => h3 (z ▸ ma)
    exact ⟨by rw [upd_ne ne]; exact h1, h2, h3⟩
  · intro b hb
    by_cases e : b = a
    · rw [e]; exact ⟨o, upd_same⟩
    · rw [upd_ne e]; exact S.lv b hb
  · intro i b c h1 h2 h3
    by_cases e : i = j
    · subst e
      rw [ha] at h1
      cases h1
      exact hB
    · rw [List.getElem?_set_ne (Ne.symm e)] at h2
      exact S.nb i b c h1 h2 h3
  · intro i b c h1 h2
    by_cases e : i = j
    · subst e
      rw [ha] at h1
      cases h1
      rw [List.getElem?_set_self (List.getElem?_eq_some_iff.mp hc).1] at h2
      cases h2
      exact hk
    · rw [List.getElem?_set_ne (Ne.symm e)] at h2
      have ne : b ≠ a := fun z => by
        subst z
        exact e ((List.getElem?_inj (List.getElem?_eq_some_iff.mp h1).1 S.nd).mp (h1.trans ha.symm))
      refine ct_mono0 (Same.refl B) (fun u q => ?_) (S.ce i b c h1 h2)
      rw [upd_ne ne]; exact q
/-- a slot is set -/
theorem Stt.store (S : Stt K F g tm s H B al) {i : Nat} {v : V} {r : R} (h : RvOk K B al v r) : Stt K F { g with sl := g.sl.set i (some r) } tm (s.set i (some v)) H B al := by
  refine { S with sl := ?_, sln := by rw [List.length_set, List.length_set]; exact S.sln }
  intro k q e
  by_cases hk : i = k
  · subst hk
    by_cases hl : i < g.sl.length
    · rw [List.getElem?_set_self hl] at e
      cases e
      exact ⟨v, List.getElem?_set_self (by rw [← S.sln]; exact hl), h⟩
    · rw [List.getElem?_eq_none (by rw [List.length_set]; omega)] at e
      cases e
  · rw [List.getElem?_set_ne hk] at e
    rw [List.getElem?_set_ne hk]
    exact S.sl k q e
end
def lift (K : KR) (de : DE) : TE := fun s H Q => ∃ F g tm k B al, Stt K F g tm s H B al ∧ de g k ∧ ∀ v H' r g' B' al', k r g' → Stt K F g' ((v, r) :: tm) s H' B' al' → Q v H'
def liftT (K : KR) (dt : DT) : TT := fun s H Q => ∃ F g tm k B al, Stt K F g tm s H B al ∧ dt g k ∧ ∀ b H' g' B' al', k b g' → Stt K F g' tm s H' B' al' → Q b H'
def liftA (K : KR) (da : DA) : TA := fun s H Q => ∃ F g tm k B al, Stt K F g tm s H B al ∧ da g k ∧ ∀ vs H' rs g' B' al', k rs g' → Stt K F g' tm s H' B' al' → Paired (RvOk K B' al') vs rs → Q vs H'
structure DEndsOk (K : KR) (F : Fm) (tm : List (V × R)) (E : DEnds) (D : Ends) : Prop where
  nx : ∀ s H g B al, E.nx g → Stt K F g tm s H B al → D.nx s H
  rt : ∀ s v H r g B al, E.rt r g → Stt K F g ((v, r) :: tm) s H B al → D.rt v H
  bk : ∀ s H g B al, E.bk g → Stt K F g tm s H B al → D.bk s H
  ct : ∀ s H g B al, E.ct g → Stt K F g tm s H B al → D.ct s H
  tm0 : tm = []
def liftS (K : KR) (ds : DS) : TS := fun D s H => ∃ F g tm E B al, Stt K F g tm s H B al ∧ ds E g ∧ DEndsOk K F tm E D
abbrev PD (ρ : Root) (X : Cx) (e : Expr) (de : DE) : Prop := PE X e (lift ⟨X.K, ρ⟩ de)
abbrev PDT (ρ : Root) (X : Cx) (e : Expr) (dt : DT) : Prop := PT X e (liftT ⟨X.K, ρ⟩ dt)
abbrev PDA (ρ : Root) (X : Cx) (es : List Expr) (da : DA) : Prop := PA X es (liftA ⟨X.K, ρ⟩ da)
abbrev PDS (ρ : Root) (X : Cx) (st : Stmt) (ds : DS) : Prop := PS X st (liftS ⟨X.K, ρ⟩ ds)
abbrev PDSs (ρ : Root) (X : Cx) (st : List Stmt) (ds : DS) : Prop := PSs X st (liftS ⟨X.K, ρ⟩ ds)
section
variable {ρ : Root} {X : Cx} {e a b c : Expr} {pos : Pos}
theorem pe_imp {t t' : TE} (h : PE X e t) (i : ∀ s H Q, t' s H Q → t s H Q) : PE X e t' := ⟨fun pins s σ H Q I q => h.run pins s σ H Q I (i σ H Q q)⟩
theorem pt_imp {t t' : TT} (h : PT X e t) (i : ∀ s H Q, t' s H Q → t s H Q) : PT X e t' := ⟨fun pins s σ H Q I q => h.run pins s σ H Q I (i σ H Q q)⟩
theorem pa_imp {es : List Expr} {t t' : TA} (h : PA X es t) (i : ∀ s H Q, t' s H Q → t s H Q) : PA X es t' := ⟨fun p pins s σ H Q I q => h.run p pins s σ H Q I (i σ H Q q)⟩
theorem ps_imp {st : Stmt} {t t' : TS} (h : PS X st t) (i : ∀ D s H, t' D s H → t D s H) : PS X st t' := ⟨fun pins s σ H D I q => h.run pins s σ H D I (i D σ H q)⟩
theorem pss_imp {st : List Stmt} {t t' : TS} (h : PSs X st t) (i : ∀ D s H, t' D s H → t D s H) : PSs X st t' := ⟨fun pins s σ H D I q => h.run pins s σ H D I (i D σ H q)⟩
def dVar (i : Nat) : DE := fun g k => ∃ r, g.sl[i]? = some (some r) ∧ k r g
theorem pd_var (i : Nat) {x : Str} (hN : X.N[i]? = some x := by rfl) (hv : Vis X.env.scope x := by first | exact Or.inl rfl | exact Or.inr (Or.inl rfl) | exact Or.inr (Or.inr rfl)) (hd : (x == ("__debug__" : Str)) = false := by decide)
    (hcd : (x == ("__classdict__" : Str)) = false := by decide) : PD ρ X (.Name x pos) (dVar i) :=
  pe_imp (pe_var hN hv hd hcd) fun s H Q ⟨F, g, tm, k, B, al, S, ⟨r, hr, hk⟩, q⟩ => by
    obtain ⟨v, h1, h2⟩ := S.sl i r hr
    exact ⟨v, h1, q v H r g B al hk (S.push h2)⟩
def dC (x : PyData) : DE := fun g k => k (.d x) g
theorem ref_c {K : KR} {v : V} {x : PyData} (h : ∀ B, Dq B v x) : ∀ s H Q, lift K (dC x) s H Q → tC v s H Q :=
  fun s H Q ⟨F, g, tm, k, B, al, S, hk, q⟩ => q v H (.d x) g B al hk (S.push (h B))
theorem pd_int {i : Int} {j : Nat} : PD ρ X (.Constant (.int i) j pos) (dC (.int i)) := pe_imp pe_int (ref_c fun B => .int i)
theorem pd_bool {i : Bool} {j : Nat} : PD ρ X (.Constant (.bool i) j pos) (dC (.bool i)) := pe_imp pe_bl (ref_c fun B => .bl i)
theorem pd_none {j : Nat} : PD ρ X (.Constant .none j pos) (dC .none) := pe_imp pe_non (ref_c fun B => .non)
theorem pd_str {i : Str} {j : Nat} : PD ρ X (.Constant (.str i) j pos) (dC (.str i)) := pe_imp pe_str (ref_c fun B => .str i)
abbrev D2 := R → R → G → (R → G → Prop) → Prop
def RefOp (K : KR) (r : R2) (dr : D2) : Prop := ∀ F g tm s H B al x y r1 r2 k Q, Stt K F g tm s H B al → RvOk K B al x r1 → RvOk K B al y r2 → dr r1 r2 g k →
  (∀ v H' r g' B' al', k r g' → Stt K F g' tm s H' B' al' → RvOk K B' al' v r → Q v H') → r x y H Q
def dOp (dr : D2) (da db : DE) : DE := fun g k => da g fun r1 g1 => db g1 fun r2 g2 => dr r1 r2 g2 k
theorem ref_op {K : KR} {r : R2} {dr : D2} {da db : DE} (h : RefOp K r dr) : ∀ s H Q, lift K (dOp dr da db) s H Q → tOp r (lift K da) (lift K db) s H Q :=
  fun s H Q ⟨F, g, tm, k, B, al, S, hk, q⟩ => ⟨F, g, tm, _, B, al, S, hk, fun x H1 r1 g1 B1 al1 hk1 S1 => ⟨F, g1, (x, r1) :: tm, _, B1, al1, S1, hk1, fun y H2 r2 g2 B2 al2 hk2 S2 =>
    h F g2 tm s H2 B2 al2 x y r1 r2 k Q (S2.temps fun p hp => List.mem_cons_of_mem _ (List.mem_cons_of_mem _ hp)) (S2.tm (x, r1) (by simp)) (S2.tm (y, r2) (by simp)) hk2 fun v H' r g' B' al' hr S' rv => q v H' r g' B' al' hr (S'.push rv)⟩⟩
theorem pd_op {op : Operator} {r : R2} {dr : D2} {da db : DE} (ho : OpR X (binaryOp op) r) (h : RefOp ⟨X.K, ρ⟩ r dr) (ha : PD ρ X a da) (hb : PD ρ X b db) : PD ρ X (.BinOp a op b pos) (dOp dr da db) :=
  pe_imp (pe_op ho ha hb) (ref_op h)
theorem pd_cmp {op : CmpOp} {r : R2} {dr : D2} {da db : DE} (ho : OpR X (compareOp op) r) (hm : behindInMarks op b = false) (h : RefOp ⟨X.K, ρ⟩ r dr) (ha : PD ρ X a da) (hb : PD ρ X b db) : PD ρ X (.Compare a [op] [b] pos) (dOp dr da db) :=
  pe_imp (pe_cmpR ho ha hb hm) (ref_op h)
end
end DL
set_option Elab.async false
set_option linter.all false
set_option maxRecDepth 100000
set_option maxHeartbeats 4000000
set_option autoImplicit false
namespace DL
open PySem PySem.Spec PyProof.Rows L2
theorem dq_int {B : Hp} {v : V} {i : Int} (h : Dq B v (.int i)) : v = .int i := by cases h; rfl
theorem dq_bool {B : Hp} {v : V} {i : Bool} (h : Dq B v (.bool i)) : v = .bl i := by cases h; rfl
theorem dq_none {B : Hp} {v : V} (h : Dq B v .none) : v = .non := by cases h; rfl
theorem dq_str {B : Hp} {v : V} {i : Str} (h : Dq B v (.str i)) : v = .str i := by cases h; rfl
theorem dq_list {B : Hp} {v : V} {ds : List PyData} (h : Dq B v (.list ds)) : ∃ a xs, v = .ref a ∧ B a = some (.lst xs) ∧ DqAll B xs ds := by
  cases h with
  | lst h1 h2 => exact ⟨_, _, rfl, h1, h2⟩
theorem dq_tup {B : Hp} {v : V} {ds : List PyData} (h : Dq B v (.tuple ds)) : ∃ a xs, v = .ref a ∧ B a = some (.tup xs) ∧ DqAll B xs ds := by
  cases h with
  | tup h1 h2 => exact ⟨_, _, rfl, h1, h2⟩
theorem dqall_len {B : Hp} : ∀ {xs : List V} {ds : List PyData}, DqAll B xs ds → xs.length = ds.length
  | _, _, .nil => rfl
  | _, _, .cons _ t => by rw [List.length_cons, List.length_cons, dqall_len t]
theorem dqall_get {B : Hp} : ∀ {xs : List V} {ds : List PyData} {i : Nat} {d : PyData}, DqAll B xs ds → ds[i]? = some d → ∃ x, xs[i]? = some x ∧ Dq B x d
  | _, _, _, _, .nil, e => by simp at e
  | _, _, 0, _, .cons r _, e => by
    simp at e
    subst e
    exact ⟨_, rfl, r⟩
  | _, _, i + 1, d, .cons _ t, e => by
    obtain ⟨u, h1, h2⟩ := dqall_get (i := i) (d := d) t (by simpa using e)
    exact ⟨u, by simpa using h1, h2⟩
theorem dqall_app {B : Hp} : ∀ {xs ys : List V} {ds es : List PyData}, DqAll B xs ds → DqAll B ys es → DqAll B (xs ++ ys) (ds ++ es)
  | _, _, _, _, .nil, s => s
  | _, _, _, _, .cons r t, s => .cons r (dqall_app t s)
theorem dqall_take {B : Hp} : ∀ {xs : List V} {ds : List PyData} (n : Nat), DqAll B xs ds → DqAll B (xs.take n) (ds.take n)
  | _, _, 0, _ => .nil
  | _, _, _ + 1, .nil => .nil
  | _, _, n + 1, .cons r t => .cons r (dqall_take n t)
theorem dqall_drop {B : Hp} : ∀ {xs : List V} {ds : List PyData} (n : Nat), DqAll B xs ds → DqAll B (xs.drop n) (ds.drop n)
  | _, _, 0, r => r
  | _, _, _ + 1, .nil => .nil
  | _, _, n + 1, .cons _ t => dqall_drop n t
theorem dqall_set {B : Hp} {x : V} {d : PyData} (r : Dq B x d) : ∀ {xs : List V} {ds : List PyData} (i : Nat), DqAll B xs ds → DqAll B (xs.set i x) (ds.set i d)
  | _, _, _, .nil => .nil
  | _, _, 0, .cons _ t => .cons r t
  | _, _, i + 1, .cons q t => .cons q (dqall_set r i t)
theorem dqall_ints {B : Hp} : ∀ {xs : List V} {ns : List Int}, DqAll B xs (ns.map .int) → xs = ns.map V.int
  | _, [], .nil => rfl
  | _, n :: ns, .cons r t => by
    rw [dq_int r, dqall_ints t]
    rfl
theorem dqall_mkints {B : Hp} : ∀ (ns : List Int), DqAll B (ns.map V.int) (ns.map .int)
  | [] => .nil
  | n :: ns => .cons (.int n) (dqall_mkints ns)
theorem dqall_bools {B : Hp} : ∀ {xs : List V} {ns : List Bool}, DqAll B xs (ns.map .bool) → xs = ns.map V.bl
  | _, [], .nil => rfl
  | _, n :: ns, .cons r t => by
    rw [dq_bool r, dqall_bools t]
    rfl
theorem dqall_paired {K : KR} {B : Hp} {al : List Addr} : ∀ {xs : List V} {ds : List PyData}, Paired (RvOk K B al) xs (ds.map .d) → DqAll B xs ds
  | _, [], .nil => .nil
  | _, d :: ds, .cons r t => .cons r (dqall_paired t)
/-- the items of a sequence; true: a tuple -/
def seqOf (g : G) : R → Option (Bool × List PyData)
  | .d (.list ds) => some (false, ds)
  | .d (.tuple ds) => some (true, ds)
  | .s ns => some (false, ns.map .int)
  | .o j => match g.ce[j]? with
    | some (.lst ds) => some (false, ds)
    | _ => none
  | _ => none
def SqB (K : PySem.W.Frag) (t : Bool) (H : Hp) (a : Addr) (xs : List V) : Prop := match t with
  | true => SqT K H a xs
  | false => SqL K H a xs
section
variable {K : KR} {F : Fm} {g : G} {tm : List (V × R)} {s : L2.St} {H B : Hp} {al : List Addr}
theorem Stt.seq (S : Stt K F g tm s H B al) {v : V} {r : R} {t : Bool} {ds : List PyData} (hv : RvOk K B al v r) (h : seqOf g r = some (t, ds)) : ∃ a xs, v = .ref a ∧ SqB K.fr t H a xs ∧ DqAll B xs ds := by
  cases r with
  | d x =>
    cases x with
    | list es =>
      have e : (false, es) = (t, ds) := Option.some.inj h
      cases e
      obtain ⟨a, xs, e1, e2, e3⟩ := dq_list hv
      exact ⟨a, xs, e1, .inl (.inl (S.bh _ _ e2)), e3⟩
    | tuple es =>
      have e : (true, es) = (t, ds) := Option.some.inj h
      cases e
      obtain ⟨a, xs, e1, e2, e3⟩ := dq_tup hv
      exact ⟨a, xs, e1, .inl (.inl (S.bh _ _ e2)), e3⟩
    | _ => cases h
  | x n => cases h
  | m ct => cases h
  | l js => cases h
  | s ns =>
    have e : (false, ns.map PyData.int) = (t, ds) := Option.some.inj h
    cases e
    obtain ⟨a, e1, e2⟩ := hv
    exact ⟨a, ns.map V.int, e1, same_l S.bh e2, dqall_mkints ns⟩
  | o j =>
    obtain ⟨a, e1, e2⟩ := hv
    cases hc : g.ce[j]? with
    | none =>
      have h' : (match g.ce[j]? with | some (.lst ds) => some (false, ds) | _ => none) = some (t, ds) := h
      rw [hc] at h'
      cases h'
    | some ct =>
      have h' : (match g.ce[j]? with | some (.lst ds) => some (false, ds) | _ => none) = some (t, ds) := h
      rw [hc] at h'
      cases ct with
      | lst es =>
        cases h'
        obtain ⟨xs, q1, q2⟩ := S.ce j a _ e1 hc
        exact ⟨a, xs, e2, .inl (.inl q1), q2⟩
      | dead => cases h'
      | dK kvs => cases h'
      | dT kvs => cases h'
      | dN kvs => cases h'
      | dL kvs => cases h'
      | dF kvs => cases h'
/-- an own list, a shared list: not the script -/
def isMade : R → Bool
  | .s _ => false
  | _ => true
theorem Stt.seqM (S : Stt K F g tm s H B al) {v : V} {r : R} {ds : List PyData} (hv : RvOk K B al v r) (h : seqOf g r = some (false, ds)) (hm : isMade r = true) : ∃ a xs, v = .ref a ∧ H a = some (.lst xs) ∧ DqAll B xs ds := by
  cases r with
  | d x =>
    cases x with
    | list es =>
      have e : (false, es) = (false, ds) := Option.some.inj h
      cases e
      obtain ⟨a, xs, e1, e2, e3⟩ := dq_list hv
      exact ⟨a, xs, e1, S.bh _ _ e2, e3⟩
    | _ => cases h
  | x n => cases h
  | m ct => cases h
  | l js => cases h
  | s ns => cases hm
  | o j =>
    obtain ⟨a, e1, e2⟩ := hv
    cases hc : g.ce[j]? with
    | none =>
      have h' : (match g.ce[j]? with | some (.lst ds) => some (false, ds) | _ => none) = some (false, ds) := h
      rw [hc] at h'
      cases h'
    | some ct =>
      have h' : (match g.ce[j]? with | some (.lst ds) => some (false, ds) | _ => none) = some (false, ds) := h
      rw [hc] at h'
      cases ct with
      | lst es =>
        cases h'
        obtain ⟨xs, q1, q2⟩ := S.ce j a _ e1 hc
        exact ⟨a, xs, e2, q1, q2⟩
      | dead => cases h'
      | dK kvs => cases h'
      | dT kvs => cases h'
      | dN kvs => cases h'
      | dL kvs => cases h'
      | dF kvs => cases h'
end
theorem SqB.or {K : KR} {t : Bool} {H : Hp} {a : Addr} {xs : List V} (h : SqB K.fr t H a xs) : SqL K.fr H a xs ∨ SqT K.fr H a xs := by
  cases t with
  | true => exact .inr h
  | false => exact .inl h
section
variable {ρ : Root} {X : Cx} {e a b c : Expr} {es : List Expr} {pos : Pos}
def dNil : DA := fun g k => k [] g
def dCons (de : DE) (da : DA) : DA := fun g k => de g fun r g1 => da g1 fun rs g2 => k (r :: rs) g2
theorem pda_nil : PDA ρ X [] dNil := pa_imp pa_nil fun s H Q ⟨F, g, tm, k, B, al, S, hk, q⟩ => q [] H [] g B al hk S .nil
theorem pda_cons {de : DE} {da : DA} (ha : PD ρ X e de) (hr : PDA ρ X es da) (hs : starEach (e :: es) X.env = (false, eval e X.env) :: starEach es X.env := by rfl) : PDA ρ X (e :: es) (dCons de da) :=
  pa_imp (pa_cons ha hr hs) fun s H Q ⟨F, g, tm, k, B, al, S, hk, q⟩ => ⟨F, g, tm, _, B, al, S, hk, fun x H1 r1 g1 B1 al1 hk1 S1 => ⟨F, g1, (x, r1) :: tm, _, B1, al1, S1, hk1, fun vs H2 rs g2 B2 al2 hk2 S2 pr =>
    q (x :: vs) H2 (r1 :: rs) g2 B2 al2 hk2 (S2.temps fun p hp => List.mem_cons_of_mem _ hp) (.cons (S2.tm (x, r1) List.mem_cons_self) pr)⟩⟩
abbrev DCl := List R → G → (R → G → Prop) → Prop
def RefC (K : KR) (r : List V → Hp → VK → Prop) (dr : DCl) : Prop := ∀ F g tm s H B al vs rs k Q, Stt K F g tm s H B al → Paired (RvOk K B al) vs rs → dr rs g k →
  (∀ v H' r g' B' al', k r g' → Stt K F g' tm s H' B' al' → RvOk K B' al' v r → Q v H') → r vs H Q
def dCall (dr : DCl) (da : DA) : DE := fun g k => da g fun rs g1 => dr rs g1 k
theorem ref_cb {K : KR} {r : List V → Hp → VK → Prop} {dr : DCl} {da : DA} (h : RefC K r dr) : ∀ s H Q, lift K (dCall dr da) s H Q → tCB r (liftA K da) s H Q :=
  fun s H Q ⟨F, g, tm, k, B, al, S, hk, q⟩ => ⟨F, g, tm, _, B, al, S, hk, fun vs H1 rs g1 B1 al1 hk1 S1 pr => h F g1 tm s H1 B1 al1 vs rs k Q S1 pr hk1 fun v H' r g' B' al' hr S' rv => q v H' r g' B' al' hr (S'.push rv)⟩
theorem pd_callB {x : Str} {p : Pos} {id : String} {r : List V → Hp → VK → Prop} {dr : DCl} {da : DA} (hc : CallR X (.builtin id) r) (h : RefC ⟨X.K, ρ⟩ r dr) (hg : Gl X x) (hm : X.mg x = none) (hv : bootBuiltins x = some (.builtin id)) (ha : PDA ρ X (e :: es) da) (hn : x ≠ "__name__" := by decide)
    (hdb : (x == ("__debug__" : Str)) = false := by decide) (he : starEach (e :: es) X.env = (false, eval e X.env) :: starEach es X.env := by rfl) (hpl : (backTo pos (starEach es X.env)).any (·.1) = false := by rfl) : PD ρ X (.Call (.Name x p) (e :: es) [] pos) (dCall dr da) :=
  pe_imp (pe_callB hc hg hm hv ha hn hdb he hpl) (ref_cb h)
theorem pd_callTy {x : Str} {p : Pos} {id : String} {r : List V → Hp → VK → Prop} {dr : DCl} {da : DA} (hc : CallR X (.type id) r) (h : RefC ⟨X.K, ρ⟩ r dr) (hg : Gl X x) (hm : X.mg x = none) (hv : bootBuiltins x = some (.type id)) (ha : PDA ρ X (e :: es) da) (hn : x ≠ "__name__" := by decide)
    (hdb : (x == ("__debug__" : Str)) = false := by decide) (he : starEach (e :: es) X.env = (false, eval e X.env) :: starEach es X.env := by rfl) (hpl : (backTo pos (starEach es X.env)).any (·.1) = false := by rfl) : PD ρ X (.Call (.Name x p) (e :: es) [] pos) (dCall dr da) :=
  pe_imp (pe_callTy hc hg hm hv ha hn hdb he hpl) (ref_cb h)
theorem pair1 {K : KR} {B : Hp} {al : List Addr} {vs : List V} {r : R} (h : Paired (RvOk K B al) vs [r]) : ∃ v, vs = [v] ∧ RvOk K B al v r := by
  cases h with
  | cons a b => cases b; exact ⟨_, rfl, a⟩
theorem pair2 {K : KR} {B : Hp} {al : List Addr} {vs : List V} {r r' : R} (h : Paired (RvOk K B al) vs [r, r']) : ∃ v w, vs = [v, w] ∧ RvOk K B al v r ∧ RvOk K B al w r' := by
  cases h with
  | cons a b =>
    obtain ⟨w, e, h⟩ := pair1 b
    subst e
    exact ⟨_, _, rfl, a, h⟩
/-- len -/
def cLen : DCl := fun rs g k => ∃ r t ds, rs = [r] ∧ seqOf g r = some (t, ds) ∧ k (.d (.int ds.length)) g
theorem ref_len {K : KR} : RefC K (fun xs H Q => ∃ p ys, xs = [.ref p] ∧ (SqL K.fr H p ys ∨ SqT K.fr H p ys) ∧ Q (.int ys.length) H) cLen := by
  rintro F g tm s H B al vs rs k Q S pr ⟨r, t, ds, rfl, hs, hk⟩ q
  obtain ⟨v, rfl, hv⟩ := pair1 pr
  obtain ⟨a, xs, rfl, h1, h2⟩ := S.seq hv hs
  refine ⟨a, xs, rfl, h1.or, ?_⟩
  rw [dqall_len h2]
  exact q _ H _ g B al hk S (.int _)
/-- abs, min, max, int -/
def cAbs : DCl := fun rs g k => ∃ i, rs = [.d (.int i)] ∧ k (.d (.int (if i < 0 then -i else i))) g
theorem ref_abs {K : KR} : RefC K (fun xs H Q => ∃ i, xs = [.int i] ∧ Q (.int (if i < 0 then -i else i)) H) cAbs := by
  rintro F g tm s H B al vs rs k Q S pr ⟨i, rfl, hk⟩ q
  obtain ⟨v, rfl, hv⟩ := pair1 pr
  cases dq_int hv
  exact ⟨i, rfl, q _ H _ g B al hk S (.int _)⟩
def cMax2 : DCl := fun rs g k => ∃ i j, rs = [.d (.int i), .d (.int j)] ∧ k (.d (.int (if j > i then j else i))) g
theorem ref_max2 {K : KR} : RefC K (fun xs H Q => ∃ i j, xs = [.int i, .int j] ∧ Q (.int (if j > i then j else i)) H) cMax2 := by
  rintro F g tm s H B al vs rs k Q S pr ⟨i, j, rfl, hk⟩ q
  obtain ⟨v, w, rfl, hv, hw⟩ := pair2 pr
  cases dq_int hv
  cases dq_int hw
  exact ⟨i, j, rfl, q _ H _ g B al hk S (.int _)⟩
def cMin2 : DCl := fun rs g k => ∃ i j, rs = [.d (.int i), .d (.int j)] ∧ k (.d (.int (if j < i then j else i))) g
theorem ref_min2 {K : KR} : RefC K (fun xs H Q => ∃ i j, xs = [.int i, .int j] ∧ Q (.int (if j < i then j else i)) H) cMin2 := by
  rintro F g tm s H B al vs rs k Q S pr ⟨i, j, rfl, hk⟩ q
  obtain ⟨v, w, rfl, hv, hw⟩ := pair2 pr
  cases dq_int hv
  cases dq_int hw
  exact ⟨i, j, rfl, q _ H _ g B al hk S (.int _)⟩
def cIntB : DCl := fun rs g k => ∃ b, rs = [.d (.bool b)] ∧ k (.d (.int (if b then 1 else 0))) g
theorem ref_intB {K : KR} : RefC K (fun xs H Q => (∃ i, xs = [.int i] ∧ Q (.int i) H) ∨ ∃ k, xs = [.bl k] ∧ Q (.int (if k then 1 else 0)) H) cIntB := by
  rintro F g tm s H B al vs rs k Q S pr ⟨i, rfl, hk⟩ q
  obtain ⟨v, rfl, hv⟩ := pair1 pr
  cases dq_bool hv
  exact .inr ⟨i, rfl, q _ H _ g B al hk S (.int _)⟩
/-- a new shared list, a new shared tuple -/
theorem new_l {K : KR} {F : Fm} {g : G} {tm : List (V × R)} {s : L2.St} {H B : Hp} {al : List Addr} {p : Addr} {xs : List V} {ds : List PyData} {Q : VK} {k : R → G → Prop} (S : Stt K F g tm s H B al) (hp : H p = none) (hx : DqAll B xs ds) (hk : k (.d (.list ds)) g)
    (q : ∀ v H' r g' B' al', k r g' → Stt K F g' tm s H' B' al' → RvOk K B' al' v r → Q v H') : Q (.ref p) (upd H p (.lst xs)) :=
  q _ _ _ g _ al hk (S.grow hp) (Dq.lst upd_same (dqall_mono (same_new (S.bh.free hp)) hx))
theorem new_t {K : KR} {F : Fm} {g : G} {tm : List (V × R)} {s : L2.St} {H B : Hp} {al : List Addr} {p : Addr} {xs : List V} {ds : List PyData} {Q : VK} {k : R → G → Prop} (S : Stt K F g tm s H B al) (hp : H p = none) (hx : DqAll B xs ds) (hk : k (.d (.tuple ds)) g)
    (q : ∀ v H' r g' B' al', k r g' → Stt K F g' tm s H' B' al' → RvOk K B' al' v r → Q v H') : Q (.ref p) (upd H p (.tup xs)) :=
  q _ _ _ g _ al hk (S.grow hp) (Dq.tup upd_same (dqall_mono (same_new (S.bh.free hp)) hx))
theorem new_o {K : KR} {F : Fm} {g : G} {tm : List (V × R)} {s : L2.St} {H B : Hp} {al : List Addr} {p : Addr} {xs : List V} {ds : List PyData} {Q : VK} {k : R → G → Prop} (S : Stt K F g tm s H B al) (hp : H p = none) (hx : DqAll B xs ds) (hk : k (.o g.ce.length) { g with ce := g.ce ++ [.lst ds] })
    (q : ∀ v H' r g' B' al', k r g' → Stt K F g' tm s H' B' al' → RvOk K B' al' v r → Q v H') : Q (.ref p) (upd H p (.lst xs)) :=
  q _ _ _ _ _ _ hk (S.own hp ⟨xs, upd_same, hx⟩) ⟨p, S.own_at, rfl⟩
/-- list(x): shared; own -/
def cList : DCl := fun rs g k => ∃ r t ds, rs = [r] ∧ seqOf g r = some (t, ds) ∧ k (.d (.list ds)) g
theorem ref_list {K : KR} : RefC K (fun xs H Q => ∃ p ys, xs = [.ref p] ∧ (SqL K.fr H p ys ∨ SqT K.fr H p ys) ∧ ∀ l, H l = none → Q (.ref l) (upd H l (.lst ys))) cList := by
  rintro F g tm s H B al vs rs k Q S pr ⟨r, t, ds, rfl, hs, hk⟩ q
  obtain ⟨v, rfl, hv⟩ := pair1 pr
  obtain ⟨a, xs, rfl, h1, h2⟩ := S.seq hv hs
  exact ⟨a, xs, rfl, h1.or, fun l hl => new_l S hl h2 hk q⟩
/-- tuple(x) -/
def cTuple : DCl := fun rs g k => ∃ r t ds, rs = [r] ∧ seqOf g r = some (t, ds) ∧ k (.d (.tuple ds)) g
theorem seq_tup {g : G} {r : R} {ds : List PyData} (h : seqOf g r = some (true, ds)) : r = .d (.tuple ds) := by
  cases r with
  | d x =>
    cases x with
    | list es => cases h
    | tuple es =>
      have e : (true, es) = (true, ds) := Option.some.inj h
      cases e
      rfl
    | _ => cases h
  | x n => cases h
  | m ct => cases h
  | l js => cases h
  | s ns => cases h
  | o j =>
    have h' : (match g.ce[j]? with | some (.lst ds) => some (false, ds) | _ => none) = some (true, ds) := h
    split at h'
    · cases h'
    · cases h'
theorem ref_tuple {K : KR} : RefC K (fun xs H Q => ∃ p ys, xs = [.ref p] ∧ ((SqL K.fr H p ys ∧ ∀ l, H l = none → Q (.ref l) (upd H l (.tup ys))) ∨ (SqT K.fr H p ys ∧ Q (.ref p) H))) cTuple := by
  rintro F g tm s H B al vs rs k Q S pr ⟨r, t, ds, rfl, hs, hk⟩ q
  obtain ⟨v, rfl, hv⟩ := pair1 pr
  obtain ⟨a, xs, rfl, h1, h2⟩ := S.seq hv hs
  cases t with
  | false => exact ⟨a, xs, rfl, .inl ⟨h1, fun l hl => new_t S hl h2 hk q⟩⟩
  | true =>
    have e := seq_tup hs
    subst e
    exact ⟨a, xs, rfl, .inr ⟨h1, q _ H _ g B al hk S hv⟩⟩
def dTup (da : DA) : DE := fun g k => da g fun rs g1 => ∃ ds, rs = ds.map R.d ∧ ds.length ≤ 100000 ∧ k (.d (.tuple ds)) g1
def dLst (da : DA) : DE := fun g k => da g fun rs g1 => ∃ ds, rs = ds.map R.d ∧ ds.length ≤ 100000 ∧ k (.d (.list ds)) g1
def dLstO (da : DA) : DE := fun g k => da g fun rs g1 => ∃ ds, rs = ds.map R.d ∧ ds.length ≤ 100000 ∧ k (.o g1.ce.length) { g1 with ce := g1.ce ++ [.lst ds] }
theorem sz_ok {n : Nat} (h : n ≤ 100000) : n ≤ sizeLine := Nat.le_trans h (by decide)
theorem sz_lt {n : Nat} (h : n < 100000) : n < sizeLine := Nat.lt_of_lt_of_le h (by decide)
theorem pd_tup {x1 : Nat} {da : DA} (h : PDA ρ X es da) : PD ρ X (.Tuple es x1 pos) (dTup da) := pe_imp (pe_tup h) fun s H Q ⟨F, g, tm, k, B, al, S, hk, q⟩ =>
  ⟨F, g, tm, _, B, al, S, hk, fun vs H1 rs g1 B1 al1 ⟨ds, e, hz, hk1⟩ S1 pr => by
    subst e
    have hd := dqall_paired pr
    refine ⟨by rw [dqall_len hd]; exact sz_ok hz, fun p hp => ?_⟩
    exact new_t S1 hp hd hk1 fun v H' r g' B' al' hr S' rv => q v H' r g' B' al' hr (S'.push rv)⟩
theorem pd_lst {da : DA} (h : PDA ρ X es da) : PD ρ X (.List es pos) (dLst da) := pe_imp (pe_lst h) fun s H Q ⟨F, g, tm, k, B, al, S, hk, q⟩ =>
  ⟨F, g, tm, _, B, al, S, hk, fun vs H1 rs g1 B1 al1 ⟨ds, e, hz, hk1⟩ S1 pr => by
    subst e
    have hd := dqall_paired pr
    refine ⟨by rw [dqall_len hd]; exact sz_ok hz, fun p hp => ?_⟩
    exact new_l S1 hp hd hk1 fun v H' r g' B' al' hr S' rv => q v H' r g' B' al' hr (S'.push rv)⟩
theorem pd_lstO {da : DA} (h : PDA ρ X es da) : PD ρ X (.List es pos) (dLstO da) := pe_imp (pe_lst h) fun s H Q ⟨F, g, tm, k, B, al, S, hk, q⟩ =>
  ⟨F, g, tm, _, B, al, S, hk, fun vs H1 rs g1 B1 al1 ⟨ds, e, hz, hk1⟩ S1 pr => by
    subst e
    have hd := dqall_paired pr
    refine ⟨by rw [dqall_len hd]; exact sz_ok hz, fun p hp => ?_⟩
    exact new_o S1 hp hd hk1 fun v H' r g' B' al' hr S' rv => q v H' r g' B' al' hr (S'.push rv)⟩
end
end DL
set_option Elab.async false
set_option linter.all false
set_option maxRecDepth 100000
set_option maxHeartbeats 4000000
set_option autoImplicit false
namespace DL
open PySem PySem.Spec PyProof.Rows L2
section
variable {ρ : Root} {X : Cx} {e a b c : Expr} {es : List Expr} {pos : Pos}
def oI (C : Int → Int → Prop) (f : Int → Int → PyData) : D2 := fun r1 r2 g k => ∃ i j, r1 = .d (.int i) ∧ r2 = .d (.int j) ∧ C i j ∧ k (.d (f i j)) g
def oI0 (f : Int → Int → PyData) : D2 := fun r1 r2 g k => ∃ i j, r1 = .d (.int i) ∧ r2 = .d (.int j) ∧ k (.d (f i j)) g
theorem ref_I {K : KR} {C : Int → Int → Prop} {f : Int → Int → PyData} {h : Int → Int → V} (hd : ∀ B i j, Dq B (h i j) (f i j)) : RefOp K (rI C h) (oI C f) := by
  rintro F g tm s H B al x y r1 r2 k Q S hx hy ⟨i, j, rfl, rfl, hc, hk⟩ q
  cases dq_int hx
  cases dq_int hy
  exact ⟨i, j, rfl, rfl, hc, q _ H _ g B al hk S (hd _ _ _)⟩
theorem ref_I0 {K : KR} {f : Int → Int → PyData} {h : Int → Int → V} (hd : ∀ B i j, Dq B (h i j) (f i j)) : RefOp K (rI0 h) (oI0 f) := by
  rintro F g tm s H B al x y r1 r2 k Q S hx hy ⟨i, j, rfl, rfl, hk⟩ q
  cases dq_int hx
  cases dq_int hy
  exact ⟨i, j, rfl, rfl, q _ H _ g B al hk S (hd _ _ _)⟩
abbrev oAdd : D2 := oI0 fun i j => .int (i + j)
abbrev oSub : D2 := oI0 fun i j => .int (i - j)
abbrev oMul : D2 := oI CMul fun i j => .int (i * j)
abbrev oMod : D2 := oI (fun _ j => 0 < j) fun i j => .int (i % j)
abbrev oDiv : D2 := oI CDivW fun i j => .int (i / j)
abbrev oPow : D2 := oI CPow fun i j => .int (i ^ j.toNat)
abbrev oLt : D2 := oI0 fun i j => .bool (decide (i < j))
abbrev oLe : D2 := oI0 fun i j => .bool (decide (i ≤ j))
abbrev oGt : D2 := oI0 fun i j => .bool (decide (j < i))
abbrev oGe : D2 := oI0 fun i j => .bool (decide (j ≤ i))
theorem pd_sub {da db : DE} (ha : PD ρ X a da) (hb : PD ρ X b db) : PD ρ X (.BinOp a .Sub b pos) (dOp oSub da db) := pd_op op_sub (ref_I0 fun _ _ _ => .int _) ha hb
theorem pd_mul {da db : DE} (ha : PD ρ X a da) (hb : PD ρ X b db) : PD ρ X (.BinOp a .Mult b pos) (dOp oMul da db) := pd_op op_mul (ref_I fun _ _ _ => .int _) ha hb
theorem pd_mod {da db : DE} (ha : PD ρ X a da) (hb : PD ρ X b db) : PD ρ X (.BinOp a .Mod b pos) (dOp oMod da db) := pd_op op_mod (ref_I fun _ _ _ => .int _) ha hb
theorem pd_div {da db : DE} (ha : PD ρ X a da) (hb : PD ρ X b db) : PD ρ X (.BinOp a .FloorDiv b pos) (dOp oDiv da db) := pd_op op_fdivW (ref_I fun _ _ _ => .int _) ha hb
theorem pd_pow {da db : DE} (ha : PD ρ X a da) (hb : PD ρ X b db) : PD ρ X (.BinOp a .Pow b pos) (dOp oPow da db) := pd_op op_pow (ref_I fun _ _ _ => .int _) ha hb
theorem pd_gt {da db : DE} (ha : PD ρ X a da) (hb : PD ρ X b db) : PD ρ X (.Compare a [.Gt] [b] pos) (dOp oGt da db) := pd_cmp op_gt (nomark _) (ref_I0 fun _ _ _ => .bl _) ha hb
theorem pd_ge {da db : DE} (ha : PD ρ X a da) (hb : PD ρ X b db) : PD ρ X (.Compare a [.GtE] [b] pos) (dOp oGe da db) := pd_cmp op_ge (nomark _) (ref_I0 fun _ _ _ => .bl _) ha hb
def dNeg (da : DE) : DE := fun g k => da g fun r g1 => ∃ i, r = .d (.int i) ∧ k (.d (.int (-i))) g1
theorem pd_neg {da : DE} (ha : PD ρ X a da) : PD ρ X (.UnaryOp .USub a pos) (dNeg da) := pe_imp (pe_un un_neg ha) fun s H Q ⟨F, g, tm, k, B, al, S, hk, q⟩ =>
  ⟨F, g, tm, _, B, al, S, hk, fun v H1 r g1 B1 al1 ⟨i, e, hk1⟩ S1 => by
    subst e
    cases dq_int (S1.top rfl)
    exact ⟨i, rfl, q _ H1 _ g1 B1 al1 hk1 ((S1.temps fun p hp => List.mem_cons_of_mem _ hp).push (Dq.int _))⟩⟩
/-- the data that a value is -/
def datOf (g : G) : R → Option PyData
  | .d x => some x
  | .o j => match g.ce[j]? with
    | some (.lst ds) => some (.list ds)
    | _ => none
  | _ => none
theorem Stt.dat {K : KR} {F : Fm} {g : G} {tm : List (V × R)} {s : L2.St} {H B : Hp} {al : List Addr} (S : Stt K F g tm s H B al) {v : V} {r : R} {x : PyData} (hv : RvOk K B al v r) (h : datOf g r = some x) : Dp K.fr H v x := by
  cases r with
  | d y => cases h; exact dq_dp (dq_mono S.bh hv)
  | x n => cases h
  | m ct => cases h
  | l js => cases h
  | s ns => cases h
  | o j =>
    obtain ⟨a, e1, e2⟩ := hv
    subst e2
    have h' : (match g.ce[j]? with | some (.lst ds) => some (PyData.list ds) | _ => none) = some x := h
    cases hc : g.ce[j]? with
    | none => rw [hc] at h'; cases h'
    | some ct =>
      rw [hc] at h'
      cases ct with
      | lst es =>
        cases h'
        obtain ⟨xs, q1, q2⟩ := S.ce j a _ e1 hc
        exact .lst (.inl (.inl q1)) (dqall_dp (dqall_mono S.bh q2))
      | dead => cases h'
      | dK kvs => cases h'
      | dT kvs => cases h'
      | dN kvs => cases h'
      | dL kvs => cases h'
      | dF kvs => cases h'
def oEq : D2 := fun r1 r2 g k => ∃ x y, datOf g r1 = some x ∧ datOf g r2 = some y ∧ SeqAt.shaped x = true ∧ SeqAt.shaped y = true ∧ k (.d (.bool (PyData.eqv x y))) g
def oNe : D2 := fun r1 r2 g k => ∃ x y, datOf g r1 = some x ∧ datOf g r2 = some y ∧ SeqAt.shaped x = true ∧ SeqAt.shaped y = true ∧ k (.d (.bool (!PyData.eqv x y))) g
theorem pd_eq {da db : DE} (hu : X.A.units + 64 < cLine) (ha : PD ρ X a da) (hb : PD ρ X b db) : PD ρ X (.Compare a [.Eq] [b] pos) (dOp oEq da db) := pd_cmp (op_eqD hu) (nomark _) (by
  rintro F g tm s H B al x y r1 r2 k Q S hx hy ⟨dx, dy, e1, e2, s1, s2, hk⟩ q
  exact ⟨dx, dy, S.dat hx e1, S.dat hy e2, s1, s2, q _ H _ g B al hk S (Dq.bl _)⟩) ha hb
def isN : PyData → Bool
  | .none => true
  | _ => false
theorem dq_isN {B : Hp} {v : V} {x : PyData} (h : Dq B v x) : decide (v = .non) = isN x := by
  cases h <;> simp [isN]
theorem at_len {α β : Type} {xs : List α} {ys : List β} {i : Int} {y : β} (hl : xs.length = ys.length) (h : atI ys i = some y) : ∃ j : Nat, ixN xs.length i = some j ∧ ys[j]? = some y := by
  unfold atI at h
  rw [hl]
  cases e : ixN ys.length i with
  | none => rw [e] at h; cases h
  | some j => rw [e] at h; exact ⟨j, rfl, h⟩
theorem dqall_at {B : Hp} {xs : List V} {ds : List PyData} {i : Int} {d : PyData} (r : DqAll B xs ds) (h : atI ds i = some d) : ∃ x, atI xs i = some x ∧ Dq B x d := by
  obtain ⟨j, e1, e2⟩ := at_len (dqall_len r) h
  obtain ⟨x, h1, h2⟩ := dqall_get r e2
  refine ⟨x, ?_, h2⟩
  unfold atI
  rw [e1]
  exact h1
def oIx : D2 := fun r1 r2 g k => ∃ t ds i x, seqOf g r1 = some (t, ds) ∧ r2 = .d (.int i) ∧ atI ds i = some x ∧ k (.d x) g
theorem ref_ix {K : KR} : RefOp K (fun x y H Q => rIxL K.fr x y H Q ∨ rIxT K.fr x y H Q) oIx := by
  rintro F g tm s H B al x y r1 r2 k Q S hx hy ⟨t, ds, i, d, e1, rfl, e2, hk⟩ q
  cases dq_int hy
  obtain ⟨a, xs, rfl, h1, h2⟩ := S.seq hx e1
  obtain ⟨v, hv, hd⟩ := dqall_at h2 e2
  cases t with
  | false => exact .inl ⟨a, xs, i, v, rfl, rfl, h1, hv, q _ H _ g B al hk S hd⟩
  | true => exact .inr ⟨a, xs, i, v, rfl, rfl, h1, hv, q _ H _ g B al hk S hd⟩
theorem pd_ix {da db : DE} (ha : PD ρ X a da) (hb : PD ρ X b db) (hs : PlainIx b := by intro _ _; rfl) : PD ρ X (.Subscript a b pos) (dOp oIx da db) :=
  pe_imp (pe_ix (IxR.or ix_list ix_tup) ha hb hs) (ref_op ref_ix)
/-- the items of a slice -/
def cut {α : Type} (xs : List α) (lo hi : Option Int) : List α := (xs.drop (HT.sIx xs.length 0 lo)).take (HT.sIx xs.length xs.length hi - HT.sIx xs.length 0 lo)
theorem dqall_cut {B : Hp} {xs : List V} {ds : List PyData} (r : DqAll B xs ds) (lo hi : Option Int) : DqAll B (cutV xs lo hi) (cut ds lo hi) := by
  unfold cutV cut
  rw [dqall_len r]
  exact dqall_take _ (dqall_drop _ r)
abbrev DO := G → (Option Int → G → Prop) → Prop
def liftO (K : KR) (dt : DO) : TO := fun s H Q => ∃ F g tm k B al, Stt K F g tm s H B al ∧ dt g k ∧ ∀ b H' g' B' al', k b g' → Stt K F g' tm s H' B' al' → Q b H'
abbrev PDO (ρ : Root) (X : Cx) (e : Option Expr) (dt : DO) : Prop := PO X e (liftO ⟨X.K, ρ⟩ dt)
theorem po_imp {o : Option Expr} {t t' : TO} (h : PO X o t) (i : ∀ s H Q, t' s H Q → t s H Q) : PO X o t' := ⟨fun pins s σ H Q I q => h.run pins s σ H Q I (i σ H Q q)⟩
def dNo : DO := fun g k => k none g
def dPart (de : DE) : DO := fun g k => de g fun r g1 => ∃ i, r = .d (.int i) ∧ k (some i) g1
theorem pdo_none : PDO ρ X none dNo := po_imp po_none fun s H Q ⟨F, g, tm, k, B, al, S, hk, q⟩ => q none H g B al hk S
theorem pdo_some {de : DE} (h : PD ρ X e de) : PDO ρ X (some e) (dPart de) := po_imp (po_some h) fun s H Q ⟨F, g, tm, k, B, al, S, hk, q⟩ =>
  ⟨F, g, tm, _, B, al, S, hk, fun v H1 r g1 B1 al1 ⟨i, e, hk1⟩ S1 => by
    subst e
    cases dq_int (S1.top rfl)
    exact ⟨i, rfl, q _ H1 g1 B1 al1 hk1 (S1.temps fun p hp => List.mem_cons_of_mem _ hp)⟩⟩
/-- x[lo:hi] -/
def dSl (de : DE) (dl dh : DO) : DE := fun g k => de g fun r g1 => dl g1 fun lo g2 => dh g2 fun hi g3 => ∃ t ds, seqOf g3 r = some (t, ds) ∧ k (.d (if t then .tuple (cut ds lo hi) else .list (cut ds lo hi))) g3
theorem cut_whole {α : Type} {xs : List α} {lo hi : Option Int} (h : HT.sIx xs.length 0 lo = 0 ∧ HT.sIx xs.length xs.length hi = xs.length) : cut xs lo hi = xs := by
  unfold cut
  rw [h.1, h.2, List.drop_zero, Nat.sub_zero, List.take_length]
theorem pd_sl {de : DE} {dl dh : DO} {lo hi : Option Expr} {p2 : Pos} (he : PD ρ X e de) (hl : PDO ρ X lo dl) (hh : PDO ρ X hi dh) : PD ρ X (.Subscript e (.Slice lo hi none p2) pos) (dSl de dl dh) :=
  pe_imp (pe_slice (SlR.or sl_list sl_tupA) he hl hh) fun s H Q ⟨F, g, tm, k, B, al, S, hk, q⟩ => ⟨F, g, tm, _, B, al, S, hk, fun v H1 r g1 B1 al1 hk1 S1 => ⟨F, g1, (v, r) :: tm, _, B1, al1, S1, hk1, fun l H2 g2 B2 al2 hk2 S2 => ⟨F, g2, (v, r) :: tm, _, B2, al2, S2, hk2, fun h H3 g3 B3 al3 ⟨t, ds, e, hk3⟩ S3 => by
    obtain ⟨a, xs, rfl, h1, h2⟩ := S3.seq (S3.top rfl) e
    have hc := dqall_cut h2 l h
    have S4 := S3.temps (tm' := tm) fun p hp => List.mem_cons_of_mem _ hp
    have q' : ∀ v H' r g' B' al', k r g' → Stt ⟨X.K, ρ⟩ F g' tm s H' B' al' → RvOk ⟨X.K, ρ⟩ B' al' v r → Q v H' := fun v H' r g' B' al' hr S' rv => q v H' r g' B' al' hr (S'.push rv)
    cases t with
    | false => exact .inl ⟨a, xs, rfl, h1, fun p hp => new_l S4 hp hc hk3 q'⟩
    | true =>
      have er := seq_tup e
      subst er
      refine .inr ⟨a, xs, rfl, h1, fun hw => ?_, fun _ p hp => new_t S4 hp hc hk3 q'⟩
      rw [dqall_len h2] at hw
      have z : k (.d (.tuple (cut ds l h))) g3 := hk3
      rw [cut_whole hw] at z
      exact q' _ H3 _ g3 B3 al3 z S4 (S3.top rfl)⟩⟩⟩
/-- lists: x + y; tuples: x + y -/
def oCatL : D2 := fun r1 r2 g k => ∃ xs ys, seqOf g r1 = some (false, xs) ∧ seqOf g r2 = some (false, ys) ∧ isMade r1 = true ∧ isMade r2 = true ∧ xs.length + ys.length ≤ 100000 ∧ k (.d (.list (xs ++ ys))) g
def oCatT : D2 := fun r1 r2 g k => ∃ xs ys, r1 = .d (.tuple xs) ∧ r2 = .d (.tuple ys) ∧ xs.length + ys.length ≤ 100000 ∧ k (.d (.tuple (xs ++ ys))) g
def dAnd (da db : DE) : DE := fun g k => da g fun r g1 => ∃ c, r = .d (.bool c) ∧ if c = true then db g1 k else k (.d (.bool false)) g1
def dNot (da : DE) : DE := fun g k => da g fun r g1 => ∃ c, r = .d (.bool c) ∧ k (.d (.bool (!c))) g1
theorem pd_one {op} {de : DE} (h : PD ρ X a de) : PD ρ X (.BoolOp op [a] pos) de := pe_one h
theorem pd_and {rest : List Expr} {da db : DE} (ha : PD ρ X a da) (hb : PD ρ X (.BoolOp .And (b :: rest) pos) db) : PD ρ X (.BoolOp .And (a :: b :: rest) pos) (dAnd da db) :=
  pe_imp (pe_and ha hb) fun s H Q ⟨F, g, tm, k, B, al, S, hk, q⟩ => ⟨F, g, tm, _, B, al, S, hk, fun v H1 r g1 B1 al1 ⟨c, e, hk1⟩ S1 => by
    subst e
    cases dq_bool (S1.top rfl)
    have S2 := S1.temps (tm' := tm) fun p hp => List.mem_cons_of_mem _ hp
    refine ⟨c, rfl, ?_⟩
    cases c with
    | true => exact iteT ⟨F, g1, tm, k, B1, al1, S2, hk1, q⟩
    | false => exact iteF (q _ H1 _ g1 B1 al1 hk1 (S2.push (Dq.bl _)))⟩
theorem pd_not {da : DE} (ha : PD ρ X a da) : PD ρ X (.UnaryOp .Not a pos) (dNot da) := pe_imp (pe_not ha) fun s H Q ⟨F, g, tm, k, B, al, S, hk, q⟩ =>
  ⟨F, g, tm, _, B, al, S, hk, fun v H1 r g1 B1 al1 ⟨c, e, hk1⟩ S1 => by
    subst e
    cases dq_bool (S1.top rfl)
    exact ⟨c, rfl, q _ H1 _ g1 B1 al1 hk1 ((S1.temps fun p hp => List.mem_cons_of_mem _ hp).push (Dq.bl _))⟩⟩
def dTst (da : DE) : DT := fun g k => da g fun r g1 => ∃ c, r = .d (.bool c) ∧ k c g1
theorem ref_tst {K : KR} {da : DE} : ∀ s H Q, liftT K (dTst da) s H Q → tB (lift K da) s H Q := fun s H Q ⟨F, g, tm, k, B, al, S, hk, q⟩ =>
  ⟨F, g, tm, _, B, al, S, hk, fun v H1 r g1 B1 al1 ⟨c, e, hk1⟩ S1 => by
    subst e
    cases dq_bool (S1.top rfl)
    exact ⟨c, rfl, q c H1 g1 B1 al1 hk1 (S1.temps fun p hp => List.mem_cons_of_mem _ hp)⟩⟩
/-- a value that is True or False as a test -/
theorem pdt_val {da : DE} (h : PD ρ X e da) (he : ∀ whole, isTrue e X.env whole = (do let v ← whole; standAt e.pos; holding [v] (truthy v)) := by intro _; rfl) : PDT ρ X e (dTst da) := pt_imp (pt_val h he) ref_tst
def dAndT (t u : DT) : DT := fun g k => t g fun c g1 => if c = true then u g1 k else k false g1
def dOrT (t u : DT) : DT := fun g k => t g fun c g1 => if c = true then k true g1 else u g1 k
def dNotT (t : DT) : DT := fun g k => t g fun c g1 => k (!c) g1
abbrev PDW (ρ : Root) (X : Cx) (e : Expr) (dt : DT) : Prop := PW X e (liftT ⟨X.K, ρ⟩ dt)
theorem pw_imp {t t' : TT} (h : PW X e t) (i : ∀ s H Q, t' s H Q → t s H Q) : PW X e t' := ⟨fun w pins s σ H Q I q => h.run w pins s σ H Q I (i σ H Q q)⟩
theorem pdw_and1 {t : DT} (h : PDT ρ X a t) : PDW ρ X (.BoolOp .And [a] pos) t := pw_and1 h
theorem pdw_or1 {t : DT} (h : PDT ρ X a t) : PDW ρ X (.BoolOp .Or [a] pos) t := pw_or1 h
theorem pdw_and {rest : List Expr} {t u : DT} (ha : PDT ρ X a t) (hb : PDW ρ X (.BoolOp .And (b :: rest) pos) u) : PDW ρ X (.BoolOp .And (a :: b :: rest) pos) (dAndT t u) :=
  pw_imp (pw_and ha hb) fun s H Q ⟨F, g, tm, k, B, al, S, hk, q⟩ => ⟨F, g, tm, _, B, al, S, hk, fun c H1 g1 B1 al1 hk1 S1 => by
    cases c with
    | true => exact iteT ⟨F, g1, tm, k, B1, al1, S1, hk1, q⟩
    | false => exact iteF (q _ H1 g1 B1 al1 hk1 S1)⟩
theorem pdw_or {rest : List Expr} {t u : DT} (ha : PDT ρ X a t) (hb : PDW ρ X (.BoolOp .Or (b :: rest) pos) u) : PDW ρ X (.BoolOp .Or (a :: b :: rest) pos) (dOrT t u) :=
  pw_imp (pw_or ha hb) fun s H Q ⟨F, g, tm, k, B, al, S, hk, q⟩ => ⟨F, g, tm, _, B, al, S, hk, fun c H1 g1 B1 al1 hk1 S1 => by
    cases c with
    | true => exact iteT (q _ H1 g1 B1 al1 hk1 S1)
    | false => exact iteF ⟨F, g1, tm, k, B1, al1, S1, hk1, q⟩⟩
theorem pdt_w {t : DT} (h : PDW ρ X e t) : PDT ρ X e t := PW.pt h
theorem pdt_not {t : DT} (h : PDT ρ X a t) : PDT ρ X (.UnaryOp .Not a pos) (dNotT t) := pt_imp (pt_not h) fun s H Q ⟨F, g, tm, k, B, al, S, hk, q⟩ => ⟨F, g, tm, _, B, al, S, hk, fun c H1 g1 B1 al1 hk1 S1 => q _ H1 g1 B1 al1 hk1 S1⟩
theorem pdt_cmp {op : CmpOp} {r : R2} {dr : D2} {da db : DE} (ho : OpR X (compareOp op) r) (hm : behindInMarks op b = false) (h : RefOp ⟨X.K, ρ⟩ r dr) (ha : PD ρ X a da) (hb : PD ρ X b db) : PDT ρ X (.Compare a [op] [b] pos) (dTst (dOp dr da db)) :=
  pt_imp (pt_cmpR ho ha hb hm) fun s H Q hq => ref_op h s H _ (show lift ⟨X.K, ρ⟩ (dOp dr da db) s H (fun x H' => ∃ k, x = .bl k ∧ Q k H') from (by
    obtain ⟨F, g, tm, k, B, al, S, hk, q⟩ := hq
    exact ⟨F, g, tm, _, B, al, S, hk, fun v H1 r g1 B1 al1 ⟨c, e, hk1⟩ S1 => by
      subst e
      cases dq_bool (S1.top rfl)
      exact ⟨c, rfl, q c H1 g1 B1 al1 hk1 (S1.temps fun p hp => List.mem_cons_of_mem _ hp)⟩⟩))
theorem pdt_lt {da db : DE} (ha : PD ρ X a da) (hb : PD ρ X b db) : PDT ρ X (.Compare a [.Lt] [b] pos) (dTst (dOp oLt da db)) := pdt_cmp op_lt (nomark _) (ref_I0 fun _ _ _ => .bl _) ha hb
theorem pdt_le {da db : DE} (ha : PD ρ X a da) (hb : PD ρ X b db) : PDT ρ X (.Compare a [.LtE] [b] pos) (dTst (dOp oLe da db)) := pdt_cmp op_le (nomark _) (ref_I0 fun _ _ _ => .bl _) ha hb
theorem pdt_gt {da db : DE} (ha : PD ρ X a da) (hb : PD ρ X b db) : PDT ρ X (.Compare a [.Gt] [b] pos) (dTst (dOp oGt da db)) := pdt_cmp op_gt (nomark _) (ref_I0 fun _ _ _ => .bl _) ha hb
theorem pdt_ge {da db : DE} (ha : PD ρ X a da) (hb : PD ρ X b db) : PDT ρ X (.Compare a [.GtE] [b] pos) (dTst (dOp oGe da db)) := pdt_cmp op_ge (nomark _) (ref_I0 fun _ _ _ => .bl _) ha hb
theorem ref_eqd {K : KR} : RefOp K (rEqD K.fr) oEq := by
  rintro F g tm s H B al x y r1 r2 k Q S hx hy ⟨dx, dy, e1, e2, s1, s2, hk⟩ q
  exact ⟨dx, dy, S.dat hx e1, S.dat hy e2, s1, s2, q _ H _ g B al hk S (Dq.bl _)⟩
theorem ref_ned {K : KR} : RefOp K (rNeD K.fr) oNe := by
  rintro F g tm s H B al x y r1 r2 k Q S hx hy ⟨dx, dy, e1, e2, s1, s2, hk⟩ q
  exact ⟨dx, dy, S.dat hx e1, S.dat hy e2, s1, s2, q _ H _ g B al hk S (Dq.bl _)⟩
theorem pdt_eq {da db : DE} (hu : X.A.units + 64 < cLine) (ha : PD ρ X a da) (hb : PD ρ X b db) : PDT ρ X (.Compare a [.Eq] [b] pos) (dTst (dOp oEq da db)) := pdt_cmp (op_eqD hu) (nomark _) ref_eqd ha hb
theorem pdt_ne {da db : DE} (hu : X.A.units + 64 < cLine) (ha : PD ρ X a da) (hb : PD ρ X b db) : PDT ρ X (.Compare a [.NotEq] [b] pos) (dTst (dOp oNe da db)) := pdt_cmp (op_neD hu) (nomark _) ref_ned ha hb
/-- a if t else b -/
def dIf (t : DT) (da db : DE) : DE := fun g k => t g fun c g1 => if c = true then da g1 k else db g1 k
theorem pd_if {t : DT} {da db : DE} (hc : PDT ρ X c t) (ha : PD ρ X a da) (hb : PD ρ X b db) : PD ρ X (.IfExp c a b pos) (dIf t da db) := pe_imp (pe_ifExp hc ha hb) fun s H Q ⟨F, g, tm, k, B, al, S, hk, q⟩ =>
  ⟨F, g, tm, _, B, al, S, hk, fun c H1 g1 B1 al1 hk1 S1 => by
    cases c with
    | true => exact iteT ⟨F, g1, tm, k, B1, al1, S1, hk1, q⟩
    | false => exact iteF ⟨F, g1, tm, k, B1, al1, S1, hk1, q⟩⟩
/-- a < b < c of whole numbers and the like -/
def dChain (o1 o2 : D2) (da db dc : DE) : DE := fun g k => da g fun r1 g1 => db g1 fun r2 g2 => o1 r1 r2 g2 fun r3 g3 => ∃ c, r3 = .d (.bool c) ∧ if c = true then dc g3 fun r4 g4 => o2 r2 r4 g4 k else k (.d (.bool false)) g3
theorem ref_chain {K : KR} {r r' : R2} {o1 o2 : D2} {da db dc : DE} (h1 : RefOp K r o1) (h2 : RefOp K r' o2) : ∀ s H Q, lift K (dChain o1 o2 da db dc) s H Q → tChain r r' (lift K da) (lift K db) (lift K dc) s H Q :=
  fun s H Q ⟨F, g, tm, k, B, al, S, hk, q⟩ => ⟨F, g, tm, _, B, al, S, hk, fun x H1 r1 g1 B1 al1 hk1 S1 => ⟨F, g1, (x, r1) :: tm, _, B1, al1, S1, hk1, fun y H2 r2 g2 B2 al2 hk2 S2 =>
    h1 F g2 ((y, r2) :: tm) s H2 B2 al2 x y r1 r2 _ _ (S2.temps fun p hp => by
      rcases List.mem_cons.mp hp with e | e
      · rw [e]; exact List.mem_cons_self
      · exact List.mem_cons_of_mem _ (List.mem_cons_of_mem _ e)) (S2.tm (x, r1) (by simp)) (S2.tm (y, r2) (by simp)) hk2 fun v H3 r3 g3 B3 al3 ⟨c, e, hk3⟩ S3 rv => by
      subst e
      cases dq_bool rv
      refine ⟨c, rfl, ?_⟩
      cases c with
      | true => exact iteT ⟨F, g3, (y, r2) :: tm, _, B3, al3, S3, hk3, fun w H4 r4 g4 B4 al4 hk4 S4 =>
          h2 F g4 tm s H4 B4 al4 y w r2 r4 k Q (S4.temps fun p hp => List.mem_cons_of_mem _ (List.mem_cons_of_mem _ hp)) (S4.tm (y, r2) (by simp)) (S4.tm (w, r4) (by simp)) hk4 fun v H' r g' B' al' hr S' rv => q v H' r g' B' al' hr (S'.push rv)⟩
      | false => exact iteF (q _ H3 _ g3 B3 al3 hk3 ((S3.temps fun p hp => List.mem_cons_of_mem _ hp).push (Dq.bl _)))⟩⟩
end
end DL
set_option Elab.async false
set_option linter.all false
set_option maxRecDepth 100000
set_option maxHeartbeats 4000000
set_option autoImplicit false
namespace DL
open PySem PySem.Spec PyProof.Rows L2
section
variable {ρ : Root} {X : Cx} {e a b c tg : Expr} {es : List Expr} {pos : Pos}
theorem ref_tt {K : KR} {da : DE} : ∀ s H Q, liftT K (dTst da) s H Q → tTest (lift K da) s H Q := fun s H Q ⟨F, g, tm, k, B, al, S, hk, q⟩ =>
  ⟨F, g, tm, _, B, al, S, hk, fun v H1 r g1 B1 al1 ⟨c, e, hk1⟩ S1 => by
    subst e
    cases dq_bool (S1.top rfl)
    exact ⟨c, rfl, q c H1 g1 B1 al1 hk1 (S1.temps fun p hp => List.mem_cons_of_mem _ hp)⟩⟩
theorem pdt_chain {op op' : CmpOp} {r r' : R2} {o1 o2 : D2} {da db dc : DE} (ho : OpR X (compareOp op) r) (ho' : OpR X (compareOp op') r') (h1 : RefOp ⟨X.K, ρ⟩ r o1) (h2 : RefOp ⟨X.K, ρ⟩ r' o2) (ha : PD ρ X a da) (hb : PD ρ X b db) (hc : PD ρ X c dc)
    (hm : lastMarks [op, op'] [b, c] = false := by with_unfolding_all rfl) : PDT ρ X (.Compare a [op, op'] [b, c] pos) (dTst (dChain o1 o2 da db dc)) :=
  pt_imp (pt_chain ho ho' ha hb hc hm) fun s H Q hq => ref_chain h1 h2 s H _ (ref_tt s H Q hq)
theorem pdt_lele {da db dc : DE} (ha : PD ρ X a da) (hb : PD ρ X b db) (hc : PD ρ X c dc) (hm : lastMarks [.LtE, .LtE] [b, c] = false := by with_unfolding_all rfl) : PDT ρ X (.Compare a [.LtE, .LtE] [b, c] pos) (dTst (dChain oLe oLe da db dc)) :=
  pdt_chain op_le op_le (ref_I0 fun _ _ _ => .bl _) (ref_I0 fun _ _ _ => .bl _) ha hb hc hm
abbrev DGs := List R → G → (G → Prop) → Prop
def liftG (K : KR) (ws : List Nat) (dg : DG) : TG := fun v s H Q => ∃ F g tm r k B al, Stt K F g tm s H B al ∧ RvOk K B al v r ∧ dg r g k ∧ ∀ s' H' g' B' al', k g' → Stt K F g' tm s' H' B' al' → wipe s' ws = wipe s ws → Q s' H'
def liftGs (K : KR) (ws : List Nat) (dg : DGs) : TGs := fun vs s H Q => ∃ F g tm rs k B al, Stt K F g tm s H B al ∧ Paired (RvOk K B al) vs rs ∧ dg rs g k ∧ ∀ s' H' g' B' al', k g' → Stt K F g' tm s' H' B' al' → wipe s' ws = wipe s ws → Q s' H'
abbrev PDG (ρ : Root) (X : Cx) (ws : List Nat) (tg : Expr) (dg : DG) : Prop := PG X tg (liftG ⟨X.K, ρ⟩ ws dg)
abbrev PDGs (ρ : Root) (X : Cx) (ws : List Nat) (tgs : List Expr) (dg : DGs) : Prop := PGs X tgs (liftGs ⟨X.K, ρ⟩ ws dg)
theorem pg_imp {t t' : TG} (h : PG X tg t) (i : ∀ v s H Q, t' v s H Q → t v s H Q) : PG X tg t' := ⟨fun pins s σ H v u Q I r q => h.run pins s σ H v u Q I r (i v σ H Q q)⟩
theorem pgs_imp {t t' : TGs} (h : PGs X es t) (i : ∀ v s H Q, t' v s H Q → t v s H Q) : PGs X es t' := ⟨fun pins s σ H v u Q I r q => h.run pins s σ H v u Q I r (i v σ H Q q)⟩
theorem wipe_set {s : L2.St} {v : Option V} {i : Nat} : ∀ {ws : List Nat}, i ∈ ws → wipe (s.set i v) ws = wipe s ws
  | [], h => by cases h
  | w :: ws, h => by
    unfold wipe
    by_cases e : i ∈ ws
    · rw [wipe_set e]
    · have ew : i = w := by
        rcases List.mem_cons.mp h with z | z
        · exact z
        · exact absurd z e
      subst ew
      have gen : ∀ us : List Nat, i ∉ us → (wipe (s.set i v) us).set i none = (wipe s us).set i none := by
        intro us
        induction us with
        | nil => intro _; unfold wipe; rw [List.set_set]
        | cons u us ih =>
          intro hu
          unfold wipe
          have h1 : i ≠ u := fun z => hu (z ▸ List.mem_cons_self)
          rw [List.set_comm _ _ (Ne.symm h1), ih (fun z => hu (List.mem_cons_of_mem _ z)), List.set_comm _ _ h1]
      exact gen ws e
def gN (i : Nat) : DG := fun r g k => k { g with sl := g.sl.set i (some r) }
theorem pdg_name {ws : List Nat} (i : Nat) {x : Str} (hN : X.N.Nodup) (hw : i ∈ ws) (hi : X.N[i]? = some x) (hx : Loc X.env.scope x) (hf : X.fn x = true ∨ X.env.scope.names.lookup x = some .local := by first | exact .inl rfl | exact .inr rfl | assumption) : PDG ρ X ws (.Name x pos) (gN i) :=
  pg_imp (pg_name hN hi hx hf) fun v s H Q ⟨F, g, tm, r, k, B, al, S, hv, hk, q⟩ => q _ H _ B al hk (S.store hv) (wipe_set hw)
def gsN : DGs := fun rs g k => rs = [] ∧ k g
def gsC (t : DG) (u : DGs) : DGs := fun rs g k => ∃ r rs', rs = r :: rs' ∧ t r g fun g1 => u rs' g1 k
theorem pdgs_nil {ws : List Nat} : PDGs ρ X ws [] gsN := pgs_imp pgs_nil fun vs s H Q ⟨F, g, tm, rs, k, B, al, S, hv, ⟨e, hk⟩, q⟩ => by
  subst e
  cases hv
  exact ⟨rfl, q _ H _ B al hk S rfl⟩
theorem Stt.pushes {K : KR} {F : Fm} {g : G} {tm : List (V × R)} {s : L2.St} {H B : Hp} {al : List Addr} {vs : List V} {rs : List R} (S : Stt K F g tm s H B al) (h : Paired (RvOk K B al) vs rs) : Stt K F g (vs.zip rs ++ tm) s H B al := by
  induction h with
  | nil => exact S
  | cons a b ih => exact ih.push a
theorem paired_of {K : KR} {B : Hp} {al : List Addr} : ∀ {vs : List V} {rs : List R}, vs.length = rs.length → (∀ p ∈ vs.zip rs, RvOk K B al p.1 p.2) → Paired (RvOk K B al) vs rs
  | [], [], _, _ => .nil
  | v :: vs, r :: rs, hl, h => .cons (h (v, r) (by simp)) (paired_of (by simpa using hl) fun p hp => h p (by rw [List.zip_cons_cons]; exact List.mem_cons_of_mem _ hp))
  | [], _ :: _, hl, _ => by simp at hl
  | _ :: _, [], hl, _ => by simp at hl
theorem pdgs_cons {ws : List Nat} {t : DG} {u : DGs} (h1 : PDG ρ X ws e t) (h2 : PDGs ρ X ws es u) (hs : (assignEach (e :: es) X.env).map (·.2) = assign e X.env :: (assignEach es X.env).map (·.2) := by rfl) : PDGs ρ X ws (e :: es) (gsC t u) :=
  pgs_imp (pgs_cons h1 h2 hs) fun vs s H Q ⟨F, g, tm, rs, k, B, al, S, hv, ⟨r, rs', er, hk⟩, q⟩ => by
    subst er
    cases hv with
    | @cons v _ vs' _ a b =>
      refine ⟨v, vs', rfl, F, g, vs'.zip rs' ++ tm, r, _, B, al, S.pushes b, a, hk, fun s1 H1 g1 B1 al1 hk1 S1 w1 => ?_⟩
      refine ⟨F, g1, tm, rs', k, B1, al1, S1.temps fun p hp => List.mem_append_right _ hp, paired_of b.length fun p hp => S1.tm p (List.mem_append_left _ hp), hk1, fun s2 H2 g2 B2 al2 hk2 S2 w2 => q s2 H2 g2 B2 al2 hk2 S2 (w2.trans w1)⟩
theorem dq_paired {K : KR} {B : Hp} {al : List Addr} : ∀ {xs : List V} {ds : List PyData}, DqAll B xs ds → Paired (RvOk K B al) xs (ds.map .d)
  | _, _, .nil => .nil
  | _, _, .cons r t => .cons r (dq_paired t)
/-- o[i] = v, o an own list -/
def gSubL (do_ di : DE) : DG := fun r g k => do_ g fun r1 g1 => di g1 fun r2 g2 => ∃ j ds i n x, r1 = .o j ∧ g2.ce[j]? = some (.lst ds) ∧ r2 = .d (.int i) ∧ ixN ds.length i = some n ∧ r = .d x ∧ k { g2 with ce := g2.ce.set j (.lst (ds.set n x)) }
theorem pdg_subL {ws : List Nat} {o i : Expr} {dd di : DE} (ho : PD ρ X o dd) (hi : PD ρ X i di)
    (ha : ∀ v, assign (.Subscript o i pos) X.env v = (do
      let ov ← holding [v] (eval o X.env)
      let iv ← holding [v, ov] (eval i X.env)
      standAt pos
      holding [v, ov, iv] (setItem ov iv v)
      release [v, ov, iv] []) := by intro _; rfl) : PDG ρ X ws (.Subscript o i pos) (gSubL dd di) :=
  pg_imp (pg_sub ho hi set_list ha) fun v s H Q ⟨F, g, tm, r, k, B, al, S, hv, hk, q⟩ => ⟨F, g, (v, r) :: tm, _, B, al, S.push hv, hk, fun x H1 r1 g1 B1 al1 hk1 S1 => ⟨F, g1, (x, r1) :: (v, r) :: tm, _, B1, al1, S1, hk1, fun y H2 r2 g2 B2 al2 ⟨j, ds, i, n, xd, e1, e2, e3, e4, e5, hk2⟩ S2 => by
    subst e1 e3 e5
    obtain ⟨p, hp, ex⟩ := S2.tm (x, R.o j) (by simp)
    have ex : x = .ref p := ex
    subst ex
    have ey := dq_int (S2.top rfl)
    have ey : y = .int i := ey
    subst ey
    have hv2 : Dq B2 v xd := S2.tm (v, R.d xd) (by simp)
    obtain ⟨xs, h1, h2⟩ := S2.ce j p _ hp e2
    refine ⟨p, xs, i, n, rfl, rfl, h1, by rw [dqall_len h2]; exact e4, ?_⟩
    exact q s _ _ B2 al2 hk2 ((S2.temps fun z hz => List.mem_cons_of_mem _ (List.mem_cons_of_mem _ (List.mem_cons_of_mem _ hz))).put hp e2 (by simp) ⟨_, upd_same, dqall_set hv2 n h2⟩) rfl⟩⟩
end
section
variable {ρ : Root} {X : Cx} {st : Stmt} {rest : List Stmt} {e c tg : Expr} {pos : Pos} {K : KR}
def sNext : DS := fun E g => E.nx g
def sSeq (t u : DS) : DS := fun E g => t { E with nx := u E } g
theorem pdss_nil : PDSs ρ X [] sNext := pss_imp pss_nil fun D s H ⟨F, g, tm, E, B, al, S, h, ok⟩ => ok.nx s H g B al h S
theorem pdss_cons {t u : DS} (h1 : PDS ρ X st t) (h2 : PDSs ρ X rest u) : PDSs ρ X (st :: rest) (sSeq t u) := pss_imp (pss_cons h1 h2) fun D s H ⟨F, g, tm, E, B, al, S, h, ok⟩ =>
  ⟨F, g, tm, { E with nx := u E }, B, al, S, h, ⟨fun s1 H1 g1 B1 al1 hk S1 => ⟨F, g1, tm, E, B1, al1, S1, hk, ok⟩, ok.rt, ok.bk, ok.ct, ok.tm0⟩⟩
theorem pdss_one {t : DS} (h1 : PDS ρ X st t) : PDSs ρ X [st] t := pss_one h1
def sExpr (de : DE) : DS := fun E g => de g fun _ g1 => E.nx g1
theorem pds_expr {de : DE} (he : PD ρ X e de) (hs : swapsWith e none pos.line X.env = pure false := by rfl) : PDS ρ X (.Expr e pos) (sExpr de) := ps_imp (ps_expr he hs) fun D s H ⟨F, g, tm, E, B, al, S, h, ok⟩ =>
  ⟨F, g, tm, _, B, al, S, h, fun v H1 r g1 B1 al1 hk S1 => ok.nx s H1 g1 B1 al1 hk (S1.temps fun p hp => List.mem_cons_of_mem _ hp)⟩
def sRet (de : DE) : DS := fun E g => de g E.rt
theorem pds_ret {de : DE} (he : PD ρ X e de) : PDS ρ X (.Return (some e) pos) (sRet de) := ps_imp (ps_ret he) fun D s H ⟨F, g, tm, E, B, al, S, h, ok⟩ =>
  ⟨F, g, tm, _, B, al, S, h, fun v H1 r g1 B1 al1 hk S1 => ok.rt s v H1 r g1 B1 al1 hk S1⟩
def sIf (t : DT) (a b : DS) : DS := fun E g => t g fun c g1 => if c = true then a E g1 else b E g1
theorem pds_if {a b : List Stmt} {t : DT} {u v : DS} (hc : PDT ρ X c t) (ha : PDSs ρ X a u) (hb : PDSs ρ X b v) : PDS ρ X (.If c a b pos) (sIf t u v) := ps_imp (ps_if hc ha hb) fun D s H ⟨F, g, tm, E, B, al, S, h, ok⟩ =>
  ⟨F, g, tm, _, B, al, S, h, fun b H1 g1 B1 al1 hk S1 => by
    cases b with
    | true => exact iteT ⟨F, g1, tm, E, B1, al1, S1, hk, ok⟩
    | false => exact iteF ⟨F, g1, tm, E, B1, al1, S1, hk, ok⟩⟩
def sAsg (de : DE) (dg : DG) : DS := fun E g => de g fun r g1 => dg r g1 E.nx
theorem ref_asg {ws : List Nat} {de : DE} {dg : DG} : ∀ D s H, liftS K (sAsg de dg) D s H → tAsg (lift K de) (liftG K ws dg) D s H := fun D s H ⟨F, g, tm, E, B, al, S, h, ok⟩ =>
  ⟨F, g, tm, _, B, al, S, h, fun v H1 r g1 B1 al1 hk S1 => ⟨F, g1, tm, r, _, B1, al1, S1.temps fun p hp => List.mem_cons_of_mem _ hp, S1.top rfl, hk, fun s' H' g' B' al' hk' S' _ => ok.nx s' H' g' B' al' hk' S'⟩⟩
theorem pds_asg {ws : List Nat} {de : DE} {dg : DG} (he : PD ρ X e de) (hg : PDG ρ X ws tg dg) (hs : swapsWithSole [tg] e pos.line X.env = pure false := by rfl) (hw : swappedStores [tg] e X.env = pure none := by rfl)
    (h1 : (assignEach [tg] X.env).map (·.2) = [assign tg X.env] := by rfl) : PDS ρ X (.Assign [tg] e pos) (sAsg de dg) := ps_imp (ps_asg he hg hs hw h1) ref_asg
theorem ref_asgN {i : Nat} {de : DE} : ∀ D s H, liftS K (sAsg de (gN i)) D s H → tAsg (lift K de) (gName i) D s H := fun D s H ⟨F, g, tm, E, B, al, S, h, ok⟩ =>
  ⟨F, g, tm, _, B, al, S, h, fun v H1 r g1 B1 al1 hk S1 => ok.nx _ H1 _ B1 al1 hk ((S1.temps (tm' := tm) fun p hp => List.mem_cons_of_mem _ hp).store (S1.top rfl))⟩
theorem pds_set {i : Nat} {x : Str} {de : DE} {pos' : Pos} (hN : X.N.Nodup) (hi : X.N[i]? = some x) (hx : Loc X.env.scope x) (he : PD ρ X e de) (hs : swapsWith e (some (.Name x pos')) pos.line X.env = pure false := by rfl)
    (hf : X.fn x = true ∨ X.env.scope.names.lookup x = some .local := by first | exact .inl rfl | exact .inr rfl | assumption) : PDS ρ X (.Assign [.Name x pos'] e pos) (sAsg de (gN i)) := ps_imp (ps_set hN hi hx he hs hf) ref_asgN
/-- a, b = x, y -/
def sPar (i j : Nat) (da : DA) : DS := fun E g => da g fun rs g1 => ∃ r1 r2, rs = [r1, r2] ∧ E.nx { g1 with sl := (g1.sl.set i (some r1)).set j (some r2) }
theorem pds_par {i j : Nat} {x y : Str} {a b : Expr} {da : DA} {px py pt : Pos} {kt k2 pt2} (hc : X.calm = true) (hN : X.N.Nodup) (hi : X.N[i]? = some x) (hj : X.N[j]? = some y) (hij : i ≠ j)
    (hx : X.env.scope.names.lookup x = some .local) (hy : X.env.scope.names.lookup y = some .local) (ha : PDA ρ X [a, b] da) (hw : swappedStores [.Tuple [.Name x px, .Name y py] kt pt] (.Tuple [a, b] k2 pt2) X.env = pure (some [x, y]))
    (hs : swapsWithSole [.Tuple [.Name x px, .Name y py] kt pt] (.Tuple [a, b] k2 pt2) pos.line X.env = pure false := by rfl) : PDS ρ X (.Assign [.Tuple [.Name x px, .Name y py] kt pt] (.Tuple [a, b] k2 pt2) pos) (sPar i j da) :=
  ps_imp (ps_par hc hN hi hj hij hx hy ha hw hs) fun D s H ⟨F, g, tm, E, B, al, S, h, ok⟩ => ⟨F, g, tm, _, B, al, S, h, fun vs H1 rs g1 B1 al1 ⟨r1, r2, er, hk⟩ S1 pr => by
    subst er
    obtain ⟨v, w, rfl, hv, hw⟩ := pair2 pr
    exact ⟨v, w, rfl, ok.nx _ H1 _ B1 al1 hk ((S1.store hv).store hw)⟩⟩
def sWhile (t : DT) (u : DS) : DS := fun E g => ∃ W : Nat → G → Prop, (∃ m, W m g) ∧ ∀ m g, W m g → t g fun c g1 => if c = true then u { E with nx := fun g' => ∃ m', m' < m ∧ W m' g', ct := fun g' => ∃ m', m' < m ∧ W m' g', bk := E.nx } g1 else E.nx g1
theorem pds_while {body : List Stmt} {t : DT} {u : DS} (hp : PassesOwn (model X.prog X.w) X.A X.env X.xe) (hc : PDT ρ X c t) (hb : PDSs ρ X body u) : PDS ρ X (.While c body [] pos) (sWhile t u) :=
  ps_imp (ps_while hp hc hb) fun D s H ⟨F, g, tm, E, B, al, S, ⟨W, ⟨m0, w0⟩, turn⟩, ok⟩ => by
    refine ⟨fun m s H => ∃ g B al, Stt ⟨X.K, ρ⟩ F g tm s H B al ∧ W m g, ⟨m0, g, B, al, S, w0⟩, ?_⟩
    rintro m s1 H1 ⟨g1, B1, al1, S1, w1⟩
    refine ⟨F, g1, tm, _, B1, al1, S1, turn m g1 w1, fun b H2 g2 B2 al2 hk S2 => ?_⟩
    cases b with
    | true =>
      refine iteT ⟨fun s' H' => ∃ g B al, Stt ⟨X.K, ρ⟩ F g tm s' H' B al ∧ ∃ m', m' < m ∧ W m' g, fun s' H' ⟨g', B', al', S', m', hm, w'⟩ => ⟨m', hm, g', B', al', S', w'⟩, ?_⟩
      exact ⟨F, g2, tm, _, B2, al2, S2, hk, ⟨fun s' H' g' B' al' h' S' => ⟨g', B', al', S', h'⟩, ok.rt, fun s' H' g' B' al' h' S' => ok.nx s' H' g' B' al' h' S', fun s' H' g' B' al' h' S' => ⟨g', B', al', S', h'⟩, ok.tm0⟩⟩
    | false => exact iteF (ok.nx s1 H2 g2 B2 al2 hk S2)
abbrev DI := G → (List PyData → G → Prop) → Prop
def WalkOk (K : KR) (B0 : Hp) (J : It) (ds : List PyData) : Prop := ∀ F g tm s H B al i, Stt K F g tm s H B al → Same B0 B →
  (∀ d, ds[i]? = some d → J.go i H ∧ ∀ x H', J.yld i H x H' → ∃ B', Stt K F g tm s H' B' al ∧ Same B B' ∧ Dq B' x d) ∧ (i = ds.length → J.stop i H)
def liftI (K : KR) (di : DI) : TI := fun s H Q => ∃ F g tm k B al, Stt K F g tm s H B al ∧ di g k ∧ ∀ J H' ds g' B' al', k ds g' → Stt K F g' tm s H' B' al' → WalkOk K B' J ds → Q J H'
abbrev PDI (ρ : Root) (X : Cx) (tg iter : Expr) (di : DI) : Prop := PI X tg iter (liftI ⟨X.K, ρ⟩ di)
theorem pi_imp {iter : Expr} {t t' : TI} (h : PI X tg iter t) (i : ∀ s H Q, t' s H Q → t s H Q) : PI X tg iter t' := ⟨fun pins s σ H Q I q => h.run pins s σ H Q I (i σ H Q q)⟩
/-- the whole numbers lo, lo + 1, .. -/
def rng (lo : Int) (n : Nat) : List PyData := (List.range n).map fun (i : Nat) => .int (lo + i)
theorem walk_rng {B : Hp} {lo : Int} {n : Nat} : WalkOk K B (Itr lo n) (rng lo n) := fun F g tm s H B1 al i S e => by
  have hl : (rng lo n).length = n := by unfold rng; rw [List.length_map, List.length_range]
  refine ⟨fun d hd => ?_, fun hi => by rw [hi, hl]; exact Nat.le_refl _⟩
  have hi : i < n := by
    have z := (List.getElem?_eq_some_iff.mp hd).1
    rw [hl] at z
    exact z
  have ed : d = .int (lo + i) := by
    unfold rng at hd
    rw [List.getElem?_map, List.getElem?_range hi] at hd
    exact (Option.some.inj hd).symm
  subst ed
  refine ⟨hi, fun y H' ⟨e1, e2⟩ => ?_⟩
  subst e1 e2
  exact ⟨B1, S, Same.refl _, Dq.int _⟩
def iR1 (da : DA) : DI := fun g k => da g fun rs g1 => ∃ j : Int, rs = [.d (.int j)] ∧ -(2 ^ 62) ≤ j ∧ j < 2 ^ 62 ∧ k (rng 0 j.toNat) g1
theorem pdi_range1 {a : Expr} {da : DA} {p : Pos} (hg : Gl X "range") (hm : X.mg "range" = none) (ha : PDA ρ X [a] da) (hs : starEach [a] X.env = [(false, eval a X.env)] := by rfl) : PDI ρ X tg (.Call (.Name "range" p) [a] [] pos) (iR1 da) :=
  pi_imp (pi_range1 hg hm ha hs) fun s H Q ⟨F, g, tm, k, B, al, S, hk, q⟩ => ⟨F, g, tm, _, B, al, S, hk, fun vs H1 rs g1 B1 al1 ⟨j, er, h1, h2, hk1⟩ S1 pr => by
    subst er
    obtain ⟨v, rfl, hv⟩ := pair1 pr
    cases dq_int hv
    exact ⟨j, rfl, h1, h2, q _ H1 _ g1 B1 al1 hk1 S1 walk_rng⟩⟩
def iR2 (da : DA) : DI := fun g k => da g fun rs g1 => ∃ i j : Int, rs = [.d (.int i), .d (.int j)] ∧ (-(2 ^ 62) ≤ i ∧ i < 2 ^ 62 ∧ -(2 ^ 62) ≤ j ∧ j < 2 ^ 62) ∧ k (rng i (j - i).toNat) g1
theorem pdi_range2 {a b : Expr} {da : DA} {p : Pos} (hg : Gl X "range") (hm : X.mg "range" = none) (ha : PDA ρ X [a, b] da) (hs : starEach [a, b] X.env = [(false, eval a X.env), (false, eval b X.env)] := by rfl) (hs2 : starEach [b] X.env = [(false, eval b X.env)] := by rfl) :
    PDI ρ X tg (.Call (.Name "range" p) [a, b] [] pos) (iR2 da) :=
  pi_imp (pi_range2 hg hm ha hs hs2) fun s H Q ⟨F, g, tm, k, B, al, S, hk, q⟩ => ⟨F, g, tm, _, B, al, S, hk, fun vs H1 rs g1 B1 al1 ⟨i, j, er, h1, hk1⟩ S1 pr => by
    subst er
    obtain ⟨v, w, rfl, hv, hw⟩ := pair2 pr
    cases dq_int hv
    cases dq_int hw
    exact ⟨i, j, rfl, h1, q _ H1 _ g1 B1 al1 hk1 S1 walk_rng⟩⟩
theorem Stt.reframe {F F' : Fm} {g : G} {tm : List (V × R)} {s : L2.St} {H B : Hp} {al : List Addr} (S : Stt K F g tm s H B al) (h0 : Same K.rt.B F'.B) (h1 : Same F'.B B) (h2 : F'.O = F.O) (h3 : F'.P = F.P) : Stt K F' g tm s H B al :=
  { S with rb := h0, ro := (by rw [h2]; exact S.ro), rp := (by rw [h3]; exact S.rp), ot := (by rw [h2]; exact S.ot), fb := h1, fo := by rw [h2]; exact S.fo, pre := by rw [h3]; exact S.pre }
def sFor (di : DI) (dg : DG) (u : DS) : DS := fun E g => di g fun ds g1 => ∃ I : Nat → G → Prop, I 0 g1 ∧ ∀ i g, I i g → (i = ds.length → E.nx g) ∧ ∀ x, ds[i]? = some x → dg (.d x) g fun g2 => u { E with nx := I (i + 1), ct := I (i + 1), bk := E.nx } g2
theorem pds_for {ws : List Nat} {iter : Expr} {body : List Stmt} {di : DI} {dg : DG} {u : DS} (hp : PassesOwn (model X.prog X.w) X.A X.env X.xe) (hc : X.calm = true) (hi : PDI ρ X tg iter di) (hg : PDG ρ X ws tg dg) (hb : PDSs ρ X body u)
    (hs : ∀ x, foldedSetIterable iter X.env x = pure x := by intro _; rfl) : PDS ρ X (.For tg iter body [] pos) (sFor di dg u) :=
  ps_imp (ps_for hp hc hi hg hb hs) fun D s H ⟨F, g, tm, E, B, al, S, h, ok⟩ => ⟨F, g, tm, _, B, al, S, h, fun J H1 ds g1 B1 al1 ⟨I, i0, turn⟩ S1 wk => by
    have fF : ∀ {g : G} {tm : List (V × R)} {s : L2.St} {H B : Hp} {al : List Addr}, Stt ⟨X.K, ρ⟩ ⟨B1, F.O, F.P⟩ g tm s H B al → Stt ⟨X.K, ρ⟩ F g tm s H B al := fun {g tm s H B al} S' => S'.reframe S1.rb (S1.fb.trans S'.fb) rfl rfl
    refine ⟨fun i m s H => m = ds.length - i ∧ i ≤ ds.length ∧ ∃ g B al, I i g ∧ Stt ⟨X.K, ρ⟩ ⟨B1, F.O, F.P⟩ g tm s H B al, ⟨ds.length, rfl, Nat.zero_le _, g1, B1, al1, i0, S1.reframe (S1.rb.trans S1.fb) (Same.refl _) rfl rfl⟩, ?_⟩
    rintro i m s2 H2 ⟨rfl, hi, g2, B2, al2, hI, S2⟩
    obtain ⟨t1, t2⟩ := turn i g2 hI
    obtain ⟨w1, w2⟩ := wk _ g2 tm s2 H2 B2 al2 i S2 S2.fb
    by_cases hlt : i < ds.length
    · obtain ⟨go, yl⟩ := w1 _ (List.getElem?_eq_getElem hlt)
      refine .inr ⟨go, fun s H => ∃ g B al, I (i + 1) g ∧ Stt ⟨X.K, ρ⟩ ⟨B1, F.O, F.P⟩ g tm s H B al, fun s' H' ⟨g', B', al', hI', S'⟩ => ⟨ds.length - (i + 1), by omega, rfl, hlt, g', B', al', hI', S'⟩, fun x H3 hy => ?_⟩
      obtain ⟨B3, S3, e3, hd⟩ := yl x H3 hy
      refine ⟨_, g2, tm, .d _, _, B3, al2, S3, hd, t2 _ (List.getElem?_eq_getElem hlt), fun s4 H4 g4 B4 al4 hk4 S4 _ => ?_⟩
      exact ⟨_, g4, tm, _, B4, al4, S4, hk4, ⟨fun s' H' g' B' al' h' S' => ⟨g', B', al', h', S'⟩, fun s' v H' r g' B' al' h' S' => ok.rt s' v H' r g' B' al' h' (fF S'), fun s' H' g' B' al' h' S' => ok.nx s' H' g' B' al' h' (fF S'), fun s' H' g' B' al' h' S' => ⟨g', B', al', h', S'⟩, ok.tm0⟩⟩
    · have e : i = ds.length := by omega
      exact .inl ⟨w2 e, ok.nx s2 H2 g2 B2 al2 (t1 e) (fF S2)⟩⟩
end
end DL
set_option Elab.async false
set_option linter.all false
set_option maxRecDepth 100000
set_option maxHeartbeats 4000000
set_option autoImplicit false
namespace DL
open PySem PySem.Spec PyProof.Rows L2
section
variable {prog : Program} {w : World} {A : Around} {E : Value → Shared → Prop} {s : Shared}
theorem collect_tupl {l : Addr} {vs : List Value} {Q : List Value → Shared → Prop} (hl : IsTup s.heap l vs.toArray)
    (h : Q vs { s with heap := (s.heap.push (seqObj "list" #[] 0)).update s.heap.objs.size (Obj.mapSeq (· ++ vs.toArray)) }) (hsz : vs.length ≤ sizeLine) : wpAny (model prog w) A (collect (.ref l)) Q E s := by
  obtain ⟨o, ho, hc, n, hd⟩ := id hl
  unfold collect
  refine wpAny_bind (wpAny_runValue (codeAny_builtin entry_proto_collect' ?_))
  show wpAny _ _ (do again (.builtin "list.__iadd__" ⟨[← newList [], .ref l], []⟩)) _ _ s
  refine wpAny_bind (wpAny_newList (wpAny_pure ⟨Code.quiet_builtin _ (by decide +kernel), codeAny_builtin entry_list_iadd' ?_⟩))
  show wpAny _ _ (Builtin.List.listExtendWith (.ref s.heap.objs.size) (.ref l) (.ref s.heap.objs.size)) _ _ { s with heap := s.heap.push (seqObj "list" #[] 0) }
  unfold Builtin.List.listExtendWith
  have ho' : (s.heap.push (seqObj "list" #[] 0)).get? l = some o := Heap.get?_push_of_some _ ho
  refine wpAny_bind (wpAny_typeOf (T := "tuple") ⟨o, ho', hc⟩ ?_)
  have ht : (Value.type "tuple" == Value.type "tuple") = true := by rfl
  rw [if_pos (by rw [ht]; simp)]
  refine wpAny_bind (listItems_at ho' hd ?_)
  refine wpAny_bind (listItems_at (xs := #[]) (n := 0) (Heap.get?_push_size _ rfl) rfl ?_)
  rw [if_neg (by simp)]
  refine wpAny_bind (listUpdate_at (xs := #[]) (n := 0) (Heap.get?_push_size _ rfl) rfl ?_ (Nat.zero_le _) (by show (#[] ++ vs.toArray).size ≤ sizeLine + 1; simp only [Array.size_append, List.size_toArray, List.length_nil]; omega))
  refine wpAny_pure ?_
  show wpAny (model prog w) A (do
      let o ← load s.heap.objs.size
      match o.data with
      | .seq xs _ => pure xs.toList
      | _ => unsupported "internal:collect") Q E { s with heap := (s.heap.push (seqObj "list" #[] 0)).update s.heap.objs.size (Obj.mapSeq (· ++ vs.toArray)) }
  refine wpAny_bind (wpAny_load (get?_update_seq (Heap.get?_push_size _ rfl) _) ?_)
  show wpAny _ _ (pure ((#[] : Array Value) ++ vs.toArray).toList) Q E _
  rw [show ((#[] : Array Value) ++ vs.toArray).toList = vs by simp]
  exact wpAny_pure h
theorem sorted_tupl {l : Addr} {vs : List Value} {ltv : Value → Value → Bool} {Q : Value → Shared → Prop} (O : SrtO.Swo ltv) (hl : IsTup s.heap l vs.toArray) (hz : vs.length ≤ sizeLine)
    (hS : 2 ≤ vs.length → ∀ (h₁ : Heap) (a : Addr), h₁.get? a = some (seqObj "list" vs.toArray 0) → (∀ b o, s.heap.get? b = some o → b ≠ a ∧ h₁.get? b = some o) → SrtO.SortableO prog w A.in1.in1 { s with heap := h₁ } a vs ltv)
    (h : ∀ out : List Value, SrtO.Srtd ltv out → SrtO.Stb ltv out vs → Q (.ref (s.heap.objs.size + 1)) { s with heap := sortedAll s.heap vs out.toArray }) :
    wpAny (model prog w) A (call (.builtin "sorted") [.ref l]) Q E s := by
  refine Calls.call_function_entry kind_sorted plain_sorted entry_sorted (args_sorted1 _) ?_
  unfold Builtin.«sorted»
  refine wpAny_bind (m := checkCount "sorted" 1 1 _) (wpAny_pure ?_)
  refine wpAny_bind (collect_tupl hl ?_ hz)
  refine wpAny_bind (wpAny_newList ?_ hz)
  have hsz : ((s.heap.push (seqObj "list" #[] 0)).update s.heap.objs.size (Obj.mapSeq (· ++ vs.toArray))).objs.size = s.heap.objs.size + 1 := by
    rw [Heap.size_update, size_push']
  have hoL : (((s.heap.push (seqObj "list" #[] 0)).update s.heap.objs.size (Obj.mapSeq (· ++ vs.toArray))).push (seqObj "list" vs.toArray 0)).get? (s.heap.objs.size + 1) = some (seqObj "list" vs.toArray 0) := by
    rw [← hsz]; exact Heap.get?_push_size _ rfl
  have keep : ∀ b o, s.heap.get? b = some o → b ≠ s.heap.objs.size + 1 ∧ (((s.heap.push (seqObj "list" #[] 0)).update s.heap.objs.size (Obj.mapSeq (· ++ vs.toArray))).push (seqObj "list" vs.toArray 0)).get? b = some o := fun b o q => by
    have hlt : b < s.heap.objs.size := Heap.lt_size q
    refine ⟨Nat.ne_of_lt (Nat.lt_succ_of_lt hlt), Heap.get?_push_of_some _ ?_⟩
    rw [Heap.get?_update_ne _ _ _ _ (Nat.ne_of_lt hlt)]
    exact Heap.get?_push_of_some _ q
  show wpAny _ _ _ _ _ { s with heap := ((s.heap.push (seqObj "list" #[] 0)).update s.heap.objs.size (Obj.mapSeq (· ++ vs.toArray))).push (seqObj "list" vs.toArray 0) }
  rw [hsz]
  refine wpAny_bind (wpAny_holding (wpAny_call_entry slot_list_sort ⟨_, hoL, rfl⟩ entry_list_sort (SrtO.list_sort_ord O hoL hz (fun h2 => hS h2 _ _ hoL keep) fun out hs hb => ⟨_, rfl, ?_⟩) (args_list_sort _)))
  exact wpAny_pure ⟨_, rfl, h out hs hb⟩
end
def rSrtT (K : PySem.W.Frag) : List V → Hp → VK → Prop := fun vs H Q => ∃ (a : Addr) (ns : List Int), vs = [V.ref a] ∧ SqT K H a (ns.map V.int) ∧ ∀ (ns' : List Int) (p : Addr), ns'.Perm ns → ns'.Pairwise (· ≤ ·) → H p = none → Q (.ref p) (upd H p (.lst (ns'.map V.int)))
section
variable {ρ : Root} {X : Cx} {e a b c o : Expr} {es : List Expr} {pos : Pos} {K : KR}
theorem cr_sortedT0 : CallR X (.builtin "sorted") (rSrtT X.K) := by
  intro pins s σ H vs us Q I r h
  obtain ⟨a, ns, rfl, hs, q⟩ := h
  obtain ⟨its, rv, hl, hz⟩ := I.tuple hs
  rw [Vals.ref1 r]
  have hi := rv.ints
  refine sorted_tupl SrtO.swo_int hl (by rw [← rv.length]; exact hz) (fun h2 h₁ a' _ _ => SrtO.ints_sortable hi h2) fun out h1 h2 => ?_
  obtain ⟨k1, k2, k3⟩ := SrtO.ints_out hi h1 h2
  obtain ⟨ep, he'⟩ := PyProof.Rows.sortedAll_at s.heap its out.toArray
  have hlen : ((out.map SrtO.iv).map V.int).length ≤ sizeLine := by
    rw [List.length_map, k2.length_eq]
    rw [List.length_map] at hz
    exact hz
  exact ⟨.ref _, upd H (s.heap.objs.size + 1) (.lst ((out.map SrtO.iv).map V.int)), I.laid (t' := s.toks) (fun _ _ => PyProof.Rows.sortedAll_old) (Nat.le_succ _) ⟨hlen, out, ep, vals_of_ints k1, he'⟩, rfl, q _ _ k2 k3 (I.hok.fresh (Nat.le_succ _))⟩
theorem CallR.or {f : Value} {r r' : List V → Hp → VK → Prop} (h : CallR X f r) (h' : CallR X f r') : CallR X f (fun xs H Q => r xs H Q ∨ r' xs H Q) := by
  intro pins s σ H vs us Q I rr q
  rcases q with q | q
  · exact h pins s σ H vs us Q I rr q
  · exact h' pins s σ H vs us Q I rr q
/-- ascending whole numbers -/
def srt (ns : List Int) : List Int := ns.mergeSort (fun i j => decide (i ≤ j))
theorem srt_perm (ns : List Int) : (srt ns).Perm ns := List.mergeSort_perm _ _
theorem srt_sorted (ns : List Int) : (srt ns).Pairwise (· ≤ ·) := by
  have h := List.pairwise_mergeSort (le := fun (i j : Int) => decide (i ≤ j)) (fun a b c h1 h2 => by simp only [decide_eq_true_eq] at *; omega) (fun a b => by simp only [Bool.or_eq_true, decide_eq_true_eq]; omega) ns
  exact h.imp fun h => by simpa using h
theorem sorted_uniq {l l' : List Int} (hp : l.Perm l') (h : l.Pairwise (· ≤ ·)) (h' : l'.Pairwise (· ≤ ·)) : l = l' :=
  hp.eq_of_pairwise (fun a b _ _ h1 h2 => Int.le_antisymm h1 h2) h h'
theorem srt_eq {ns l : List Int} (hp : l.Perm ns) (h : l.Pairwise (· ≤ ·)) : l = srt ns := sorted_uniq (hp.trans (srt_perm ns).symm) h (srt_sorted ns)
def cSorted : DCl := fun rs g k => ∃ (r : R) (t : Bool) (ns : List Int), rs = [r] ∧ seqOf g r = some (t, ns.map .int) ∧ k (.d (.list ((srt ns).map .int))) g
theorem pd_sorted {p : Pos} {da : DA} (hg : Gl X "sorted") (hm : X.mg "sorted" = none) (ha : PDA ρ X (e :: es) da) (he : starEach (e :: es) X.env = (false, eval e X.env) :: starEach es X.env := by rfl) (hpl : (backTo pos (starEach es X.env)).any (·.1) = false := by rfl) :
    PD ρ X (.Call (.Name "sorted" p) (e :: es) [] pos) (dCall cSorted da) := by
  refine pd_callB (CallR.or cr_sortedI cr_sortedT0) ?_ hg hm (by decide +kernel) ha (he := he) (hpl := hpl)
  rintro F g tm s H B al vs rs k Q S pr ⟨r, t, ns, rfl, hs, hk⟩ q
  obtain ⟨v, rfl, hv⟩ := pair1 pr
  obtain ⟨a, xs, rfl, h1, h2⟩ := S.seq hv hs
  cases dqall_ints h2
  cases t with
  | false => exact .inl ⟨a, ns, rfl, h1, fun ns' p hp hs' hn => by
      rw [srt_eq hp hs']
      exact new_l S hn (dqall_mkints _) hk q⟩
  | true => exact .inr ⟨a, ns, rfl, h1, fun ns' p hp hs' hn => by
      rw [srt_eq hp hs']
      exact new_l S hn (dqall_mkints _) hk q⟩
abbrev DM := R → List R → G → (R → G → Prop) → Prop
def RefM (K : KR) (r : V → List V → Hp → VK → Prop) (dm : DM) : Prop := ∀ F g tm s H B al x vs r0 rs k Q, Stt K F g tm s H B al → RvOk K B al x r0 → Paired (RvOk K B al) vs rs → dm r0 rs g k →
  (∀ v H' r g' B' al', k r g' → Stt K F g' tm s H' B' al' → RvOk K B' al' v r → Q v H') → r x vs H Q
def dMeth (dm : DM) (dd : DE) (da : DA) : DE := fun g k => dd g fun r g1 => (∃ ds, seqOf g1 r = some (false, ds)) ∧ da g1 fun rs g2 => dm r rs g2 k
theorem pd_meth {name : Str} {apos cpos : Pos} {id : String} {r : V → List V → Hp → VK → Prop} {dm : DM} {dd : DE} {da : DA} (slot : Slot "list" name id) (hty : typeOf (.builtin id) = pure (.type "method_descriptor")) (hm : MtR X id r) (h : RefM ⟨X.K, ρ⟩ r dm) (ho : PD ρ X o dd) (ha : PDA ρ X (e :: es) da)
    (hbase : attributeBase o name X.env (eval o X.env) = eval o X.env := by rfl)
    (hfew : ((backTo cpos (starEach (e :: es) X.env)).all (fun x => !x.1) && (backToKw cpos (keywordEach [] X.env)).all (fun x => x.1.isSome) && decide ((e :: es).length + ([] : List Keyword).length + (if ([] : List Keyword).isEmpty then 0 else 1) < 30)) = true := by rfl)
    (hline : (apos.endLine == cpos.line) = true := by rfl) (hs : starEach (e :: es) X.env = (false, eval e X.env) :: starEach es X.env := by rfl) (hplain : (backTo cpos (starEach es X.env)).any (·.1) = false := by rfl) :
    PD ρ X (.Call (.Attribute o name apos) (e :: es) [] cpos) (dMeth dm dd da) :=
  pe_imp (pe_bm PySem.F.plainAttrs_list slot hty hm ho ha hbase hfew hline hs hplain) fun s H Q ⟨F, g, tm, k, B, al, S, hk, q⟩ => ⟨F, g, tm, _, B, al, S, hk, fun x H1 r1 g1 B1 al1 ⟨⟨ds, hd⟩, hk1⟩ S1 => by
    obtain ⟨a, xs, rfl, h1, h2⟩ := S1.seq (S1.top rfl) hd
    exact ⟨.inl ⟨rfl, xs, h1⟩, F, g1, (V.ref a, r1) :: tm, _, B1, al1, S1, hk1, fun vs H2 rs g2 B2 al2 hk2 S2 pr =>
      h F g2 tm s H2 B2 al2 (.ref a) vs r1 rs k Q (S2.temps fun p hp => List.mem_cons_of_mem _ hp) (S2.top rfl) pr hk2 fun v H' r g' B' al' hr S' rv => q v H' r g' B' al' hr (S'.push rv)⟩⟩
def mAppend : DM := fun r rs g k => ∃ j ds x, r = .o j ∧ rs = [.d x] ∧ g.ce[j]? = some (.lst ds) ∧ ds.length < 100000 ∧ k (.d .none) { g with ce := g.ce.set j (.lst (ds ++ [x])) }
theorem ref_append : RefM K rAppend mAppend := by
  rintro F g tm s H B al x vs r0 rs k Q S hx pr ⟨j, ds, y, rfl, rfl, hc, hz, hk⟩ q
  obtain ⟨p, hp, rfl⟩ := hx
  obtain ⟨v, rfl, hv⟩ := pair1 pr
  obtain ⟨xs, h1, h2⟩ := S.ce j p _ hp hc
  exact ⟨p, xs, v, rfl, rfl, h1, by rw [dqall_len h2]; exact sz_lt hz, q _ _ _ _ B al hk (S.put hp hc (by simp) ⟨_, upd_same, dqall_app h2 (.cons hv .nil)⟩) Dq.non⟩
theorem pd_append {apos cpos : Pos} {dd : DE} {da : DA} (ho : PD ρ X o dd) (ha : PDA ρ X (e :: es) da)
    (hbase : attributeBase o "append" X.env (eval o X.env) = eval o X.env := by rfl)
    (hfew : ((backTo cpos (starEach (e :: es) X.env)).all (fun x => !x.1) && (backToKw cpos (keywordEach [] X.env)).all (fun x => x.1.isSome) && decide ((e :: es).length + ([] : List Keyword).length + (if ([] : List Keyword).isEmpty then 0 else 1) < 30)) = true := by rfl)
    (hline : (apos.endLine == cpos.line) = true := by rfl) (hs : starEach (e :: es) X.env = (false, eval e X.env) :: starEach es X.env := by rfl) (hplain : (backTo cpos (starEach es X.env)).any (·.1) = false := by rfl) :
    PD ρ X (.Call (.Attribute o "append" apos) (e :: es) [] cpos) (dMeth mAppend dd da) := pd_meth PySem.F.slot_list_append PySem.F.type_list_append mt_append ref_append ho ha hbase hfew hline hs hplain
/-- index of data -/
def mIndex : DM := fun r rs g k => ∃ ds r1 d n, datOf g r = some (.list ds) ∧ rs = [r1] ∧ datOf g r1 = some d ∧ SeqAt.shaped (.list ds) = true ∧ SeqAt.shaped d = true ∧ ds.findIdx? (fun z => PyData.eqv z d) = some n ∧ k (.d (.int (n : Nat))) g
theorem ref_index : RefM K (rIndexD K.fr) mIndex := by
  rintro F g tm s H B al x vs r0 rs k Q S hx pr ⟨ds, r1, d, n, e1, rfl, e2, s1, s2, h3, hk⟩ q
  obtain ⟨v, rfl, hv⟩ := pair1 pr
  have h1 := S.dat hx e1
  have h2 := S.dat hv e2
  obtain ⟨hn, hb, hm⟩ := List.findIdx?_eq_some_iff_getElem.mp h3
  have ha : ∃ a, x = .ref a := by cases h1 with | lst _ _ => exact ⟨_, rfl⟩
  obtain ⟨a, rfl⟩ := ha
  refine ⟨a, v, d, ds, n, ds[n], rfl, rfl, h1, h2, s1, s2, List.getElem?_eq_getElem hn, hb, fun m z' hm' hz => ?_, q _ H _ g B al hk S (Dq.int _)⟩
  have hml : m < ds.length := by omega
  rw [List.getElem?_eq_getElem hml] at hz
  cases hz
  have z := hm m hm'
  simpa using z
theorem pd_index {apos cpos : Pos} {dd : DE} {da : DA} (hu : X.A.units + 65 < cLine) (ho : PD ρ X o dd) (ha : PDA ρ X (e :: es) da)
    (hbase : attributeBase o "index" X.env (eval o X.env) = eval o X.env := by rfl)
    (hfew : ((backTo cpos (starEach (e :: es) X.env)).all (fun x => !x.1) && (backToKw cpos (keywordEach [] X.env)).all (fun x => x.1.isSome) && decide ((e :: es).length + ([] : List Keyword).length + (if ([] : List Keyword).isEmpty then 0 else 1) < 30)) = true := by rfl)
    (hline : (apos.endLine == cpos.line) = true := by rfl) (hs : starEach (e :: es) X.env = (false, eval e X.env) :: starEach es X.env := by rfl) (hplain : (backTo cpos (starEach es X.env)).any (·.1) = false := by rfl) :
    PD ρ X (.Call (.Attribute o "index" apos) (e :: es) [] cpos) (dMeth mIndex dd da) := pd_meth PySem.F.slot_list_index PySem.F.type_list_index (mt_indexD hu) ref_index ho ha hbase hfew hline hs hplain
theorem inV_ints (i : Int) : ∀ ns : List Int, inV (.int i) (ns.map V.int) = decide (i ∈ ns)
  | [] => by simp [inV]
  | n :: ns => by
    have ih := inV_ints i ns
    unfold inV at ih ⊢
    rw [List.map_cons, List.any_cons, ih]
    by_cases e : n = i
    · subst e; simp [eqV]
    · have e' : ¬ i = n := fun z => e z.symm
      have z : eqV (V.int n) (V.int i) = false := by
        show (n == i) = false
        simpa using e
      rw [z, Bool.false_or]
      simp [e']
theorem flat_ints (ns : List Int) : (ns.map V.int).all flatV = true := by
  rw [List.all_eq_true]
  intro x hx
  obtain ⟨n, _, rfl⟩ := List.mem_map.mp hx
  rfl
def oIn : D2 := fun r1 r2 g k => ∃ (i : Int) (t : Bool) (ns : List Int), r1 = .d (.int i) ∧ seqOf g r2 = some (t, ns.map .int) ∧ k (.d (.bool (decide (i ∈ ns)))) g
def oNotIn : D2 := fun r1 r2 g k => ∃ (i : Int) (t : Bool) (ns : List Int), r1 = .d (.int i) ∧ seqOf g r2 = some (t, ns.map .int) ∧ k (.d (.bool (!decide (i ∈ ns)))) g
theorem ref_notIn : RefOp K (rIn K.fr true) oNotIn := by
  rintro F g tm s H B al x y r1 r2 k Q S hx hy ⟨i, t, ns, rfl, h2, hk⟩ q
  cases dq_int hx
  obtain ⟨a, xs, rfl, h1, h3⟩ := S.seq hy h2
  cases dqall_ints h3
  refine ⟨a, _, rfl, h1.or, rfl, flat_ints ns, ?_⟩
  rw [if_pos rfl, inV_ints]
  exact q _ H _ g B al hk S (Dq.bl _)
def cAll : DCl := fun rs g k => ∃ (r : R) (bs : List Bool), rs = [r] ∧ seqOf g r = some (false, bs.map .bool) ∧ k (.d (.bool (bs.all id))) g
def cSum : DCl := fun rs g k => ∃ (r : R) (ns : List Int), rs = [r] ∧ seqOf g r = some (false, ns.map .int) ∧ k (.d (.int ns.sum)) g
theorem ref_all : RefC K (rAll K.fr) cAll := by
  rintro F g tm s H B al vs rs k Q S pr ⟨r, bs, rfl, hs, hk⟩ q
  obtain ⟨v, rfl, hv⟩ := pair1 pr
  obtain ⟨a, xs, rfl, h1, h2⟩ := S.seq hv hs
  cases dqall_bools h2
  exact ⟨a, bs, rfl, h1, q _ H _ g B al hk S (Dq.bl _)⟩
theorem ref_sum : RefC K (rSum K.fr) cSum := by
  rintro F g tm s H B al vs rs k Q S pr ⟨r, ns, rfl, hs, hk⟩ q
  obtain ⟨v, rfl, hv⟩ := pair1 pr
  obtain ⟨a, xs, rfl, h1, h2⟩ := S.seq hv hs
  cases dqall_ints h2
  exact ⟨a, ns, rfl, h1, q _ H _ g B al hk S (Dq.int _)⟩
end
end DL
set_option Elab.async false
set_option linter.all false
set_option maxRecDepth 100000
set_option maxHeartbeats 4000000
set_option autoImplicit false
namespace DL
open PySem PySem.Spec PyProof.Rows L2
def wipeG (sl : List (Option R)) : List Nat → List (Option R)
  | [] => sl
  | v :: vs => (wipeG sl vs).set v none
theorem wipeG_length (sl : List (Option R)) : ∀ vs : List Nat, (wipeG sl vs).length = sl.length
  | [] => rfl
  | v :: vs => by unfold wipeG; rw [List.length_set, wipeG_length sl vs]
theorem wipeG_some {sl : List (Option R)} {i : Nat} {x : R} : ∀ {vs : List Nat}, (wipeG sl vs)[i]? = some (some x) → sl[i]? = some (some x) ∧ i ∉ vs
  | [], h => ⟨h, by simp⟩
  | v :: vs, h => by
    unfold wipeG at h
    by_cases hi : v = i
    · subst hi
      by_cases hv : v < (wipeG sl vs).length
      · rw [List.getElem?_set_self hv] at h; cases h
      · rw [List.getElem?_eq_none (by simpa using hv)] at h; cases h
    · rw [List.getElem?_set_ne hi] at h
      obtain ⟨h1, h2⟩ := wipeG_some h
      exact ⟨h1, by simp only [List.mem_cons, not_or]; exact ⟨fun e => hi e.symm, h2⟩⟩
def dLc (di : DI) (dg : DG) (dt : DT) (de : DE) (ws : List Nat) : DE := fun g k => di g fun ds g1 => ∃ I : Nat → List PyData → List Ct → Prop, I 0 [] g1.ce ∧ ∀ i acc ce, I i acc ce →
  (i = ds.length → k (.d (.list acc)) ⟨g1.sl, ce⟩) ∧ ∀ x, ds[i]? = some x → acc.length < 100000 ∧ dg (.d x) ⟨wipeG g1.sl ws, ce⟩ fun g2 => dt g2 fun b g3 =>
    if b = true then de g3 fun y g4 => ∃ d, y = .d d ∧ I (i + 1) (acc ++ [d]) g4.ce else I (i + 1) acc g3.ce
/-- the same, the list an own cell -/
def dLcO (di : DI) (dg : DG) (dt : DT) (de : DE) (ws : List Nat) : DE := fun g k => di g fun ds g1 => ∃ I : Nat → List PyData → List Ct → Prop, I 0 [] g1.ce ∧ ∀ i acc ce, I i acc ce →
  (i = ds.length → k (.o ce.length) ⟨g1.sl, ce ++ [.lst acc]⟩) ∧ ∀ x, ds[i]? = some x → acc.length < 100000 ∧ dg (.d x) ⟨wipeG g1.sl ws, ce⟩ fun g2 => dt g2 fun b g3 =>
    if b = true then de g3 fun y g4 => ∃ d, y = .d d ∧ I (i + 1) (acc ++ [d]) g4.ce else I (i + 1) acc g3.ce
def dYes : DT := fun g k => k true g
abbrev PDTs (ρ : Root) (X : Cx) (ifs : List Expr) (dt : DT) : Prop := PTs X ifs (liftT ⟨X.K, ρ⟩ dt)
section
variable {ρ : Root} {X : Cx} {tg iter elt e c : Expr} {ifs : List Expr} {pos : Pos} {K : KR}
theorem pts_imp {t t' : TT} (h : PTs X ifs t) (i : ∀ s H Q, t' s H Q → t s H Q) : PTs X ifs t' := ⟨fun pins s σ H Q I q => h.run pins s σ H Q I (i σ H Q q)⟩
theorem pdts_nil : PDTs ρ X [] dYes := pts_imp pts_nil fun s H Q ⟨F, g, tm, k, B, al, S, hk, q⟩ => q true H g B al hk S
theorem pdts_one {dt : DT} (h : PDT ρ X c dt) : PDTs ρ X [c] dt := pts_one h
/-- the frame in which the list at D grows -/
def fmLc (F : Fm) (B1 : Hp) (D : Addr) (xs : List V) : Fm := ⟨B1, upd F.O D (.lst xs), F.P⟩
theorem slotTemps {F : Fm} {g : G} {tm : List (V × R)} {s : L2.St} {H B : Hp} {al : List Addr} (S : Stt K F g tm s H B al) : ∃ ts : List (V × R), (∀ p ∈ ts, RvOk K B al p.1 p.2) ∧ ∀ (i : Nat) (r : R), g.sl[i]? = some (some r) → ∃ v, s[i]? = some (some v) ∧ (v, r) ∈ ts := by
  have gen : ∀ n, ∃ ts : List (V × R), (∀ p ∈ ts, RvOk K B al p.1 p.2) ∧ ∀ (i : Nat) (r : R), i < n → g.sl[i]? = some (some r) → ∃ v, s[i]? = some (some v) ∧ (v, r) ∈ ts := by
    intro n
    induction n with
    | zero => exact ⟨[], (fun p hp => nomatch hp), fun i r h => absurd h (Nat.not_lt_zero _)⟩
    | succ n ih =>
      obtain ⟨ts, h1, h2⟩ := ih
      by_cases hn : ∃ r, g.sl[n]? = some (some r)
      · obtain ⟨r, hr⟩ := hn
        obtain ⟨v, hv, hok⟩ := S.sl n r hr
        refine ⟨(v, r) :: ts, fun p hp => ?_, fun i r' hi hr' => ?_⟩
        · rcases List.mem_cons.mp hp with z | z
          · rw [z]; exact hok
          · exact h1 p z
        · by_cases e : i = n
          · subst e
            rw [hr] at hr'
            cases hr'
            exact ⟨v, hv, List.mem_cons_self⟩
          · obtain ⟨v', a, b⟩ := h2 i r' (by omega) hr'
            exact ⟨v', a, List.mem_cons_of_mem _ b⟩
      · refine ⟨ts, h1, fun i r' hi hr' => ?_⟩
        by_cases e : i = n
        · subst e; exact absurd ⟨r', hr'⟩ hn
        · exact h2 i r' (by omega) hr'
  obtain ⟨ts, h1, h2⟩ := gen g.sl.length
  refine ⟨ts, h1, fun i r hr => h2 i r ?_ hr⟩
  exact (List.getElem?_eq_some_iff.mp hr).1
theorem ref_lc {ws : List Nat} {di : DI} {dg : DG} {dt : DT} {de : DE} {own : Bool} : ∀ s H Q, lift K (if own then dLcO di dg dt de ws else dLc di dg dt de ws) s H Q → tLc (liftI K di) (liftG K ws dg) (liftT K dt) (lift K de) ws s H Q := by
  rintro s H Q ⟨F, g, tm, k, B, al, S, hk, q⟩
  have hk' : di g fun ds g1 => ∃ I : Nat → List PyData → List Ct → Prop, I 0 [] g1.ce ∧ ∀ i acc ce, I i acc ce →
    (i = ds.length → k (if own then .o ce.length else .d (.list acc)) (if own then ⟨g1.sl, ce ++ [.lst acc]⟩ else ⟨g1.sl, ce⟩)) ∧ ∀ x, ds[i]? = some x → acc.length < 100000 ∧ dg (.d x) ⟨wipeG g1.sl ws, ce⟩ fun g2 => dt g2 fun b g3 =>
      if b = true then de g3 fun y g4 => ∃ d, y = .d d ∧ I (i + 1) (acc ++ [d]) g4.ce else I (i + 1) acc g3.ce := by
    cases own with
    | true => exact hk
    | false => exact hk
  refine ⟨F, g, tm, _, B, al, S, hk', fun J H1 ds g1 B1 al1 ⟨I, i0, turn⟩ S1 wk => ?_⟩
  intro D hD
  have nD : D ∉ al1 := S1.new_out hD
  have bD : B1 D = none := S1.bh.free hD
  obtain ⟨ts, ts1, ts2⟩ := slotTemps S1
  have hrb : Same K.rt.B B1 := S1.rb.trans S1.fb
  have hro : ∀ (xs : List V) a o, K.rt.O a = some o → (fmLc F B1 D xs).O a = some o := fun xs a o e => by
    have e1 := S1.ro a o e
    have ne : a ≠ D := fun z => by
      have z2 := (S1.fo a o e1).1
      rw [z, hD] at z2
      cases z2
    show upd F.O D (.lst xs) a = some o
    rw [upd_ne ne]
    exact e1
  -- the state within
  have start : Stt K (fmLc F B1 D []) ⟨wipeG g1.sl ws, g1.ce⟩ (ts ++ tm) (wipe s ws) (upd H1 D (.lst [])) B1 al1 := by
    have eH : Same H1 (upd H1 D (.lst [])) := same_new hD
    refine { rb := hrb, ro := hro _, rp := S.rp, ot := (fun a us e => by
        by_cases ha : a = D
        · subst ha
          have e' : upd F.O a (.lst []) a = some (.tup us) := e
          rw [upd_same] at e'; cases e'
        · have e' : upd F.O D (.lst []) a = some (.tup us) := e
          rw [upd_ne ha] at e'; exact S.ot a us e'), fb := Same.refl _, bh := S1.bh.trans eH, fo := ?_, pre := S1.pre, len := S1.len, nd := S1.nd, lv := ?_, nb := S1.nb, ce := ?_, sl := ?_, tm := ?_, sln := ?_ }
    · intro a o e
      by_cases ha : a = D
      · subst ha
        have e' : upd F.O a (.lst []) a = some o := e
        rw [upd_same] at e' ⊢
        exact ⟨e', bD, nD⟩
      · have e' : upd F.O D (.lst []) a = some o := e
        rw [upd_ne ha] at e'
        obtain ⟨h1, h2, h3⟩ := S1.fo a o e'
        exact ⟨eH _ _ h1, h2, h3⟩
    · intro a ha
      obtain ⟨o, e⟩ := S1.lv a ha
      exact ⟨o, eH _ _ e⟩
    · intro j a ct h1 h2
      exact ct_mono0 (Same.refl _) (fun o e => eH _ _ e) (S1.ce j a ct h1 h2)
    · intro i r e
      obtain ⟨e1, e2⟩ := wipeG_some e
      obtain ⟨v, h1, h2⟩ := S1.sl i r e1
      exact ⟨v, by rw [wipe_out e2]; exact h1, h2⟩
    · intro p hp
      rcases List.mem_append.mp hp with z | z
      · exact ts1 p z
      · exact S1.tm p z
    · rw [wipeG_length, wipe_length]; exact S1.sln
  have dqT : ∀ {F' : Fm} {g' : G} {xs : List V} {acc : List PyData} {s' : L2.St} {H' B' : Hp} {al' : List Addr}, xs.length = acc.length → Stt K F' g' (xs.zip (acc.map R.d) ++ (ts ++ tm)) s' H' B' al' → DqAll B' xs acc := fun {F' g' xs acc s' H' B' al'} hl Z =>
    dqall_paired (K := K) (al := al') (paired_of (by rw [List.length_map]; exact hl) fun p hp => Z.tm p (List.mem_append_left _ hp))
  refine ⟨fun i m H => m = ds.length - i ∧ i ≤ ds.length ∧ ∃ acc xs ce B al, I i acc ce ∧ xs.length = acc.length ∧ Stt K (fmLc F B1 D xs) ⟨wipeG g1.sl ws, ce⟩ (xs.zip (acc.map R.d) ++ (ts ++ tm)) (wipe s ws) H B al, ⟨ds.length, rfl, Nat.zero_le _, [], [], g1.ce, B1, al1, i0, rfl, start⟩, ?_⟩
  rintro i m H2 ⟨rfl, hi, acc, xs, ce, B2, al2, hI, hx, S2⟩
  obtain ⟨t1, t2⟩ := turn i acc ce hI
  have dO : H2 D = some (.lst xs) ∧ B2 D = none ∧ D ∉ al2 := S2.fo D _ upd_same
  obtain ⟨w1, w2⟩ := wk _ _ _ (wipe s ws) H2 B2 al2 i S2 S2.fb
  by_cases hlt : i < ds.length
  · have hget : ds[i]? = some ds[i] := List.getElem?_eq_getElem hlt
    obtain ⟨go, yl⟩ := w1 _ hget
    obtain ⟨hz, hk2⟩ := t2 _ hget
    refine .inr ⟨go, fun H => ∃ acc xs ce B al, I (i + 1) acc ce ∧ xs.length = acc.length ∧ Stt K (fmLc F B1 D xs) ⟨wipeG g1.sl ws, ce⟩ (xs.zip (acc.map R.d) ++ (ts ++ tm)) (wipe s ws) H B al, fun H' ⟨acc', xs', ce', B', al', a1, a2, a3⟩ => ⟨ds.length - (i + 1), by omega, rfl, hlt, acc', xs', ce', B', al', a1, a2, a3⟩, fun x H3 hy => ?_⟩
    obtain ⟨B3, S3, e3, hd⟩ := yl x H3 hy
    -- the slots outside are as they were
    have back : ∀ {F' : Fm} {tm' : List (V × R)} {sl' : List (Option R)} {ce' : List Ct} {s' : L2.St} {H' B' : Hp} {al' : List Addr}, (∀ p ∈ ts, p ∈ tm') → Stt K F' ⟨sl', ce'⟩ tm' s' H' B' al' → Stt K F' ⟨wipeG g1.sl ws, ce'⟩ tm' (wipe s ws) H' B' al' := fun {F' tm' sl' ce' s' H' B' al'} hts Z =>
      { Z with
        sl := fun i r e => by
          obtain ⟨e1, e2⟩ := wipeG_some e
          obtain ⟨v, h1, h2⟩ := ts2 i r e1
          exact ⟨v, by rw [wipe_out e2]; exact h1, Z.tm _ (hts _ h2)⟩
        sln := by rw [wipeG_length, wipe_length]; exact S1.sln }
    refine ⟨_, _, _, .d _, _, B3, al2, S3, hd, hk2, fun s4 H4 g4 B4 al4 hk4 S4 wz => ⟨?_, ?_⟩⟩
    · rw [wz]
      refine List.ext_getElem? fun j => ?_
      by_cases hj : j ∈ ws
      · have gen : ∀ (us : List Nat) (q : L2.St), j ∈ us → (wipe q us)[j]? = if j < q.length then some none else none := by
          intro us
          induction us with
          | nil => intro q h; cases h
          | cons u us ih =>
            intro q h
            unfold wipe
            by_cases e : u = j
            · subst e
              by_cases hl : u < q.length
              · rw [List.getElem?_set_self (by rw [wipe_length]; exact hl), if_pos hl]
              · rw [List.getElem?_eq_none (by rw [List.length_set, wipe_length]; omega), if_neg hl]
            · rw [List.getElem?_set_ne e]
              refine ih q ?_
              rcases List.mem_cons.mp h with z | z
              · exact absurd z.symm e
              · exact z
        rw [gen ws _ hj, gen ws _ hj, wipe_length]
      · rw [wipe_out hj]
    · refine ⟨_, g4, _, _, B4, al4, S4, hk4, fun b H5 g5 B5 al5 hk5 S5 => ?_⟩
      cases b with
      | false =>
        have hk5 : I (i + 1) acc g5.ce := hk5
        exact iteF ⟨acc, xs, g5.ce, B5, al5, hk5, hx, back (fun p hp => List.mem_append_right _ (List.mem_append_left _ hp)) S5⟩
      | true =>
        refine iteT ⟨_, g5, _, _, B5, al5, S5, hk5, fun y H6 r6 g6 B6 al6 hk6 S6 => ?_⟩
        obtain ⟨d, er, hk6⟩ := hk6
        subst er
        have dO6 : H6 D = some (.lst xs) ∧ B6 D = none ∧ D ∉ al6 := S6.fo D _ upd_same
        have hy6 : Dq B6 y d := S6.top rfl
        refine ⟨xs, dO6.1, by rw [hx]; exact sz_lt hz, acc ++ [d], xs ++ [y], g6.ce, B6, al6, hk6, by rw [List.length_append, List.length_append, hx]; rfl, ?_⟩
        have Z := back (fun p hp => List.mem_cons_of_mem _ (List.mem_append_right _ (List.mem_append_left _ hp))) S6
        refine { rb := hrb, ro := hro _, rp := S.rp, ot := (fun a us e => by
        by_cases ha : a = D
        · subst ha
          have e' : upd F.O a (.lst (xs ++ [y])) a = some (.tup us) := e
          rw [upd_same] at e'; cases e'
        · have e' : upd F.O D (.lst (xs ++ [y])) a = some (.tup us) := e
          rw [upd_ne ha] at e'; exact S.ot a us e'), fb := Z.fb, bh := same_mut Z.bh dO6.2.1, fo := ?_, pre := Z.pre, len := Z.len, nd := Z.nd, lv := ?_, nb := Z.nb, ce := ?_, sl := Z.sl, tm := ?_, sln := Z.sln }
        · intro a o e
          by_cases ha : a = D
          · subst ha
            have e' : upd F.O a (.lst (xs ++ [y])) a = some o := e
            rw [upd_same] at e' ⊢
            exact ⟨e', dO6.2.1, dO6.2.2⟩
          · have e' : upd F.O D (.lst (xs ++ [y])) a = some o := e
            rw [upd_ne ha] at e' ⊢
            exact Z.fo a o (show upd F.O D (.lst xs) a = some o by rw [upd_ne ha]; exact e')
        · intro a ha
          have ne : a ≠ D := fun z => dO6.2.2 (z ▸ ha)
          rw [upd_ne ne]
          exact Z.lv a ha
        · intro j a ct h1 h2
          have ne : a ≠ D := fun z => dO6.2.2 (z ▸ List.mem_of_getElem? h1)
          exact ct_mono0 (Same.refl _) (fun o e => by rw [upd_ne ne]; exact e) (Z.ce j a ct h1 h2)
        · intro p hp
          rcases List.mem_append.mp hp with z | z
          · rw [List.map_append, List.zip_append (by rw [List.length_map]; exact hx)] at z
            rcases List.mem_append.mp z with z | z
            · exact Z.tm p (List.mem_cons_of_mem _ (List.mem_append_left _ z))
            · have e : p = (y, R.d d) := List.mem_singleton.mp z
              rw [e]
              exact hy6
          · exact Z.tm p (List.mem_cons_of_mem _ (List.mem_append_right _ z))
  · have e : i = ds.length := by omega
    refine .inl ⟨w2 e, ?_⟩
    have hd := dqT hx S2
    have hk3 := t1 e
    have tsl : ∀ {B' : Hp} {al' : List Addr}, (∀ p ∈ ts ++ tm, RvOk K B' al' p.1 p.2) → ∀ (i : Nat) (r : R), g1.sl[i]? = some (some r) → ∃ v, s[i]? = some (some v) ∧ RvOk K B' al' v r := fun {B' al'} h i r er => by
      obtain ⟨v, h1, h2⟩ := ts2 i r er
      exact ⟨v, h1, h _ (List.mem_append_left _ h2)⟩
    have tmo : ∀ p ∈ ts ++ tm, RvOk K B2 al2 p.1 p.2 := fun p hp => S2.tm p (List.mem_append_right _ hp)
    have foo : ∀ a o, F.O a = some o → H2 a = some o ∧ B2 a = none ∧ a ∉ al2 ∧ a ≠ D := fun a o ha => by
      have ne : a ≠ D := fun z => by
        subst z
        have := (S1.fo a o ha).1
        rw [hD] at this
        cases this
      obtain ⟨h1, h2, h3⟩ := S2.fo a o (show upd F.O D (.lst xs) a = some o by rw [upd_ne ne]; exact ha)
      exact ⟨h1, h2, h3, ne⟩
    have eB : Same B2 (upd B2 D (.lst xs)) := same_new dO.2.1
    cases own with
    | false =>
      refine q _ _ _ _ (upd B2 D (.lst xs)) al2 hk3 ?_
      refine { rb := S.rb, ro := S.ro, rp := S.rp, ot := S.ot, fb := (S1.fb.trans S2.fb).trans eB, bh := ?_, fo := ?_, pre := S2.pre, len := S2.len, nd := S2.nd, lv := S2.lv, nb := ?_, ce := ?_, sl := ?_, tm := ?_, sln := S1.sln }
      · intro a o ea
        by_cases ha : a = D
        · subst ha; rw [upd_same] at ea; cases ea; exact dO.1
        · rw [upd_ne ha] at ea; exact S2.bh _ _ ea
      · intro a o ha
        obtain ⟨h1, h2, h3, h4⟩ := foo a o ha
        exact ⟨h1, by rw [upd_ne h4]; exact h2, h3⟩
      · intro j a ct h1 h2 h3
        have ne : a ≠ D := fun z => dO.2.2 (z ▸ List.mem_of_getElem? h1)
        rw [upd_ne ne]
        exact S2.nb j a ct h1 h2 h3
      · intro j a ct h1 h2
        exact ct_mono0 eB (fun o e => e) (S2.ce j a ct h1 h2)
      · exact tsl fun p hp => rv_mono0 eB (tmo p hp)
      · intro p hp
        rcases List.mem_cons.mp hp with z | z
        · rw [z]
          exact Dq.lst upd_same (dqall_mono eB hd)
        · exact rv_mono0 eB (tmo p (List.mem_append_right _ z))
    | true =>
      have S3 : Stt K F ⟨g1.sl, ce⟩ tm s H2 B2 al2 := { rb := S1.rb, ro := S1.ro, rp := S1.rp, ot := S1.ot, fb := S1.fb.trans S2.fb, bh := S2.bh, fo := (fun a o ha => let ⟨h1, h2, h3, _⟩ := foo a o ha; ⟨h1, h2, h3⟩), pre := S2.pre, len := S2.len, nd := S2.nd, lv := S2.lv, nb := S2.nb, ce := S2.ce, sl := tsl tmo, tm := (fun p hp => tmo p (List.mem_append_right _ hp)), sln := S1.sln }
      obtain ⟨t, ht⟩ := S3.pre
      refine q _ _ _ _ B2 (al2 ++ [D]) hk3 ?_
      refine { rb := S.rb, ro := S.ro, rp := S.rp, ot := S.ot, fb := S3.fb, bh := S3.bh, fo := ?_, pre := ⟨t ++ [D], by rw [ht, List.append_assoc]⟩, len := by show (al2 ++ [D]).length = (ce ++ [Ct.lst acc]).length; rw [List.length_append, List.length_append, S3.len]; rfl, nd := ?_, lv := ?_, nb := ?_, ce := ?_, sl := ?_, tm := ?_, sln := S1.sln }
      · intro a o ha
        obtain ⟨h1, h2, h3, h4⟩ := foo a o ha
        refine ⟨h1, h2, fun z => ?_⟩
        rcases List.mem_append.mp z with z | z
        · exact h3 z
        · exact h4 (List.mem_singleton.mp z)
      · refine List.nodup_append.mpr ⟨S3.nd, by simp, fun a ha b hb => ?_⟩
        rw [List.mem_singleton.mp hb]
        exact fun z => dO.2.2 (z ▸ ha)
      · intro a ha
        rcases List.mem_append.mp ha with z | z
        · exact S3.lv a z
        · rw [List.mem_singleton.mp z]; exact ⟨_, dO.1⟩
      · intro j a ct h1 h2 h3
        have h2 : (ce ++ [Ct.lst acc])[j]? = some ct := h2
        have hln : al2.length = ce.length := S3.len
        by_cases hj : j < al2.length
        · rw [List.getElem?_append_left hj] at h1
          rw [List.getElem?_append_left (by omega)] at h2
          exact S3.nb j a ct h1 h2 h3
        · rw [List.getElem?_append_right (by omega)] at h1
          rw [List.mem_singleton.mp (List.mem_of_getElem? h1)]
          exact dO.2.1
      · intro j a ct h1 h2
        have h2 : (ce ++ [Ct.lst acc])[j]? = some ct := h2
        have hln : al2.length = ce.length := S3.len
        by_cases hj : j < al2.length
        · rw [List.getElem?_append_left hj] at h1
          rw [List.getElem?_append_left (by omega)] at h2
          exact ct_mono (Same.refl _) (fun o e => e) (S3.ce j a ct h1 h2)
        · rw [List.getElem?_append_right (by omega)] at h1
          rw [List.getElem?_append_right (by omega)] at h2
          have e1 : a = D := List.mem_singleton.mp (List.mem_of_getElem? h1)
          have e2 : ct = .lst acc := List.mem_singleton.mp (List.mem_of_getElem? h2)
          subst e1 e2
          exact ⟨xs, dO.1, hd⟩
      · intro i r er
        obtain ⟨v, h1, h2⟩ := S3.sl i r er
        exact ⟨v, h1, rv_mono (Same.refl _) h2⟩
      · intro p hp
        rcases List.mem_cons.mp hp with z | z
        · rw [z]
          refine ⟨D, ?_, rfl⟩
          show (al2 ++ [D])[ce.length]? = some D
          have hln : al2.length = ce.length := S3.len
          rw [← hln, List.getElem?_append_right (Nat.le_refl _), Nat.sub_self]
          rfl
        · exact rv_mono (Same.refl _) (S3.tm p z)
end
section
variable {ρ : Root} {X : Cx} {tg iter elt : Expr} {ifs : List Expr} {pos : Pos} {scope : Scope} {own : List (Str × Nat)} {di : DI} {dg : DG} {dt : DT} {de : DE}
theorem pd_lc (hc : X.calm = true) (hN : X.N.Nodup) (hi : PDI ρ X tg iter di) (ok : BlkOk X.N X.env.scope scope own)
    (hg : ∀ (s : Shared) (H : Hp) (C : Addr) (cl : List (Str × Addr)) (fp : List Addr), PDG ρ (X.blk s H scope (compEnvC scope cl C X.env) fp) (own.map (·.2)) tg dg)
    (ht : ∀ (s : Shared) (H : Hp) (C : Addr) (cl : List (Str × Addr)) (fp : List Addr), PDTs ρ (X.blk s H scope (compEnvC scope cl C X.env) fp) ifs dt)
    (he : ∀ (s : Shared) (H : Hp) (C : Addr) (cl : List (Str × Addr)) (fp : List Addr), PD ρ (X.blk s H scope (compEnvC scope cl C X.env) fp) elt de) (hs : ∀ x, foldedSetIterable iter X.env x = pure x := by intro _; rfl) :
    PD ρ X (.ListComp elt [⟨tg, iter, ifs, 0⟩] scope pos) (dLc di dg dt de (own.map (·.2))) := pe_imp (pe_lc hc hN hi ok hg ht he hs) fun s H Q h => ref_lc (own := false) s H Q h
theorem pd_lcO (hc : X.calm = true) (hN : X.N.Nodup) (hi : PDI ρ X tg iter di) (ok : BlkOk X.N X.env.scope scope own)
    (hg : ∀ (s : Shared) (H : Hp) (C : Addr) (cl : List (Str × Addr)) (fp : List Addr), PDG ρ (X.blk s H scope (compEnvC scope cl C X.env) fp) (own.map (·.2)) tg dg)
    (ht : ∀ (s : Shared) (H : Hp) (C : Addr) (cl : List (Str × Addr)) (fp : List Addr), PDTs ρ (X.blk s H scope (compEnvC scope cl C X.env) fp) ifs dt)
    (he : ∀ (s : Shared) (H : Hp) (C : Addr) (cl : List (Str × Addr)) (fp : List Addr), PD ρ (X.blk s H scope (compEnvC scope cl C X.env) fp) elt de) (hs : ∀ x, foldedSetIterable iter X.env x = pure x := by intro _; rfl) :
    PD ρ X (.ListComp elt [⟨tg, iter, ifs, 0⟩] scope pos) (dLcO di dg dt de (own.map (·.2))) := pe_imp (pe_lc hc hN hi ok hg ht he hs) fun s H Q h => ref_lc (own := true) s H Q h
end
end DL
set_option Elab.async false
set_option linter.all false
set_option maxRecDepth 100000
set_option maxHeartbeats 4000000
set_option autoImplicit false
namespace DL
open PySem PySem.Spec PyProof.Rows L2
structure Calm (k : Nat) (A : Around) : Prop where
  room : Room k A
  gds : A.guards = some []
theorem Calm.mono {j k : Nat} {A : Around} (c : Calm k A) (h : j ≤ k) : Calm j A := ⟨c.room.mono h, c.gds⟩
theorem Calm.units {k : Nat} {A : Around} (c : Calm k A) : A.units + 64 < cLine := c.room.units
theorem Calm.deeper {k : Nat} {A : Around} (c : Calm (k + 1) A) (env : Env) : Calm k (A.deeper env) := ⟨c.room.deeper env, c.gds⟩
structure FnG (P : Program) (w : World) (K : PySem.W.Frag) (mg : Str → Option Value) (base : Heap) (CX : CXT) (k : Nat) (f : Addr) (fd : FuncData) (ps : List Str) (sp : Sp) : Prop where
  count : ∀ vs H Q E, sp vs H Q E → vs.length = ps.length
  goes : ∀ (A : Around) (fr : List Env) (s : Shared) (H : Hp) (as : Args) (us : List Value) (vs : List V) (Q : VK) (E : XK), Calm k A → Env0 P w K mg base A fr s H → BindsTo s fd as (ps.zip us) → Vals vs us → sp vs H Q E →
    codeAny (model P w) A (.call (.ref f) as) (CR CX fr P w H s Q E) s
theorem FnG.mono {P : Program} {w : World} {K : PySem.W.Frag} {mg : Str → Option Value} {base : Heap} {CX : CXT} {j k : Nat} {f : Addr} {fd : FuncData} {ps : List Str} {sp : Sp} (G : FnG P w K mg base CX j f fd ps sp) (h : j ≤ k) : FnG P w K mg base CX k f fd ps sp :=
  ⟨G.count, fun A fr s H as us vs Q E c => G.goes A fr s H as us vs Q E (c.mono h)⟩
/-- by its body -/
theorem Fun.goes {CX : CXT} {P : Program} {w : World} {K : PySem.W.Frag} {mg : Str → Option Value} {base : Heap} {k : Nat} {x qual : Str} {st : Stmt} {f : Addr} {fd : FuncData} {N ps : List Str} {sp : Sp} (F : Fun K x qual st f fd) (S : FnScope N ps (defScope st))
    (count : ∀ vs H Q E, sp vs H Q E → vs.length = ps.length)
    (inside : ∀ (cdv : Value) (A : Around) (fr : List Env) (s : Shared) (H : Hp) (vs : List V) (Q : VK) (E : XK), Calm k (A.deeper (envOfC qual (defScope st) s.heap.objs.size f cdv)) → sp vs H Q E →
      ∃ t, PSs (cxOf CX P w K mg base N qual (defScope st) f cdv A fr s H E) (defBody st) t ∧ t { nx := fun _ H' => Q .non H', rt := Q } (start N vs) H) : FnG P w K mg base CX (k + 1) f fd ps sp := by
  obtain ⟨oc, od, kV, doc, pm, an, cdv, ct, osl, rfl, here, code⟩ := F.ex
  refine ⟨count, fun A fr s H as us vs Q E c env0 bnd rel want => ?_⟩
  have same : ∀ b o, base.get? b = some o → s.heap.get? b = some o := fun b o q => (env0.bs b o q).1
  have inK : K.In s.heap := env0.mod.kin.keeps same
  have noLim : s.heap.NoLimit := env0.mod.nolimit.keeps same
  refine codeAny_call_function c.room.depth (inK _ _ here) rfl S.co S.gen rfl (PySem.W.codeRec_of inK code) (bnd _ _ _ _ ?_)
  refine wpAny_newFunctionEnv_cells S.kind (fun ⟨n, v⟩ hy => (S.par n (List.of_mem_zip hy).1).elim .inl fun q => .inr ⟨q, PySem.W.cellsFrom_some _ _ _ (.inl q)⟩) fun env he s1 made => ?_
  subst he
  refine ⟨noLim.keeps made.toInCall.keep, codeAny_func ?_⟩
  obtain ⟨t, walk, ends⟩ := inside cdv A fr s H vs Q E (c.deeper _) want
  have I0 := inv_start (CX := CX) (E := E) S c.room.hd env0 (count _ _ _ _ want) rel made
  refine wpAny_mono (walk.run [] s1 (start N vs) H _ I0 ends) (fun fl s' q => ?_) fun e s' q => q
  cases fl with
  | ret u =>
    obtain ⟨v, σ', H', J, rv, hq⟩ := q
    exact ⟨v, H', J.os, J.bare, J.base, J.hok, rv, hq⟩
  | next =>
    obtain ⟨σ', H', J, hq⟩ := q
    exact ⟨.non, H', J.os, J.bare, J.base, J.hok, rfl, hq⟩
  | brk => exact q.elim fun _ ⟨_, _, z⟩ => (show False from z).elim
  | cont => exact q.elim fun _ ⟨_, _, z⟩ => (show False from z).elim
section
variable {X : Cx} {CX : CXT} {k : Nat} {f : Addr} {fd : FuncData} {ps : List Str} {sp : Sp} {E : XK} {x : Str} {p pos : Pos} {e : Expr} {es : List Expr} {t : TA}
theorem runs_G {pins : List (Addr × Obj)} {σ : L2.St} {H : Hp} {s : Shared} {Q : VK} {as : Args} {us : List Value} {vs : List V} (G : FnG X.prog X.w X.K X.mg X.base CX k f fd ps sp) (c : Calm k X.A) (I : Inv X pins σ H s) (hx : ∀ v s', CX X.stack H s E v s' → X.xe v s') (bnd : BindsTo s fd as (ps.zip us)) (r : Vals vs us) (h : sp vs H Q E) :
    wpAny (model X.prog X.w) X.A (call (.ref f) as.pos as.kw) (EP X pins σ Q) X.xe s := by
  refine wpAny_call (codeAny_mono (G.goes X.A X.stack s H as us vs Q E c I.env0 bnd r h) fun res s' q => ?_)
  cases res with
  | error v => exact hx v s' q
  | ok fl =>
    cases fl with
    | ret u => exact I.after q
    | next => exact q.elim
    | brk => exact q.elim
    | cont => exact q.elim
end
end DL
set_option Elab.async false
set_option linter.all false
set_option maxRecDepth 100000
set_option maxHeartbeats 4000000
set_option autoImplicit false
namespace DL
open PySem PySem.Spec PyProof.Rows L2
inductive Res where
  | dat (x : PyData)
  | newC (ct : Ct)
  | shC (ct : Ct)
def XnOk (K : KR) (B : Hp) (n : Xn) (cls : Value) (d : Option Addr) : Prop := cls = .ref (K.rt.cl n.cls) ∧ XnF B n d
abbrev kAt (fr : PySem.W.Frag) (cl : Str → Addr) (B O : Hp) (P : List Addr) : KR := ⟨fr, ⟨B, O, P, cl⟩⟩
def ResOk (B : Hp) (al : List Addr) (ce : List Ct) (n : Nat) (v : V) : Res → Prop
  | .dat x => Dq B v x
  | .shC ct => ∃ a, v = .ref a ∧ ct ≠ .dead ∧ ∃ K al, CtOk K B al B a ct
  | .newC ct => ∃ j p, n ≤ j ∧ al[j]? = some p ∧ v = .ref p ∧ ce[j]? = some ct ∧ ct ≠ .dead
theorem ct_any {K K' : KR} {B H : Hp} {al al' : List Addr} {a : Addr} {ct : Ct} (h : CtOk K B al H a ct) : CtOk K' B al' H a ct := by
  cases ct <;> exact h
def noO : R → Bool
  | .o _ => false
  | _ => true
def liftX (K : KR) (dx : Xn → G → Prop) : WX := fun cls d σ H => ∃ F g tm B al n, Stt K F g tm σ H B al ∧ dx n g ∧ XnOk K B n cls d
def g0 (n : Nat) (rs : List R) (ce : List Ct) : G := ⟨rs.map some ++ List.replicate (n - rs.length) none, ce⟩
section
variable {K : KR} {F : Fm} {g : G} {tm : List (V × R)} {s : L2.St} {H B : Hp} {al : List Addr}
theorem Stt.bare (S : Stt K F g tm s H B al) : Stt K F ⟨[], g.ce⟩ [] [] H B al :=
  { S with sl := (fun i r e => by simp at e), tm := (fun p hp => nomatch hp), sln := rfl }
/-- a list that nobody holds becomes shared, becomes an own cell -/
theorem Stt.adopt (S : Stt K F g tm s H B al) {p : Addr} {xs : List V} (hp : H p = some (.lst xs)) (hb : B p = none) (ha : p ∉ al) (ho : F.O p = none) : Stt K F g tm s H (upd B p (.lst xs)) al := by
  have eB : Same B (upd B p (.lst xs)) := same_new hb
  refine { rb := S.rb, ro := S.ro, rp := S.rp, ot := S.ot, fb := S.fb.trans eB, bh := ?_, fo := ?_, pre := S.pre, len := S.len, nd := S.nd, lv := S.lv, nb := ?_, ce := ?_, sl := ?_, tm := ?_, sln := S.sln }
  · intro a o e
    by_cases h : a = p
    · subst h; rw [upd_same] at e; cases e; exact hp
    · rw [upd_ne h] at e; exact S.bh _ _ e
  · intro a o e
    obtain ⟨h1, h2, h3⟩ := S.fo a o e
    have ne : a ≠ p := fun z => by subst z; rw [ho] at e; cases e
    exact ⟨h1, by rw [upd_ne ne]; exact h2, h3⟩
  · intro j a ct h1 h2 h3
    have ne : a ≠ p := fun z => ha (z ▸ List.mem_of_getElem? h1)
    rw [upd_ne ne]
    exact S.nb j a ct h1 h2 h3
  · intro j a ct h1 h2
    exact ct_mono0 eB (fun o e => e) (S.ce j a ct h1 h2)
  · intro i r e
    obtain ⟨v, h1, h2⟩ := S.sl i r e
    exact ⟨v, h1, rv_mono0 eB h2⟩
  · intro q hq
    exact rv_mono0 eB (S.tm q hq)
theorem Stt.adoptO (S : Stt K F g tm s H B al) {p : Addr} {ct : Ct} (hp : ∃ o, H p = some o) (hb : B p = none) (ha : p ∉ al) (ho : F.O p = none) (hc : CtOk K B al H p ct) : Stt K F { g with ce := g.ce ++ [ct] } tm s H B (al ++ [p]) := by
  obtain ⟨t, ht⟩ := S.pre
  refine { rb := S.rb, ro := S.ro, rp := S.rp, ot := S.ot, fb := S.fb, bh := S.bh, fo := ?_, pre := ⟨t ++ [p], by rw [ht, List.append_assoc]⟩, len := by rw [List.length_append, List.length_append, S.len]; rfl, nd := ?_, lv := ?_, nb := ?_, ce := ?_, sl := ?_, tm := ?_, sln := S.sln }
  · intro a o e
    obtain ⟨h1, h2, h3⟩ := S.fo a o e
    refine ⟨h1, h2, fun z => ?_⟩
    rcases List.mem_append.mp z with z | z
    · exact h3 z
    · rw [List.mem_singleton.mp z, ho] at e; cases e
  · refine List.nodup_append.mpr ⟨S.nd, by simp, fun a ha' b hb' => ?_⟩
    rw [List.mem_singleton.mp hb']
    exact fun z => ha (z ▸ ha')
  · intro a ha'
    rcases List.mem_append.mp ha' with z | z
    · exact S.lv a z
    · rw [List.mem_singleton.mp z]; exact hp
  · intro j a c h1 h2 h3
    by_cases hj : j < al.length
    · rw [List.getElem?_append_left hj] at h1
      rw [List.getElem?_append_left (by rw [← S.len]; exact hj)] at h2
      exact S.nb j a c h1 h2 h3
    · rw [List.getElem?_append_right (by omega)] at h1
      rw [List.mem_singleton.mp (List.mem_of_getElem? h1)]
      exact hb
  · intro j a c h1 h2
    by_cases hj : j < al.length
    · rw [List.getElem?_append_left hj] at h1
      rw [List.getElem?_append_left (by rw [← S.len]; exact hj)] at h2
      exact ct_mono (Same.refl _) (fun o e => e) (S.ce j a c h1 h2)
    · rw [List.getElem?_append_right (by omega)] at h1
      rw [List.getElem?_append_right (by rw [← S.len]; omega)] at h2
      have e1 : a = p := List.mem_singleton.mp (List.mem_of_getElem? h1)
      have e2 : c = ct := List.mem_singleton.mp (List.mem_of_getElem? h2)
      subst e1 e2
      exact ct_mono (Same.refl _) (fun o e => e) hc
  · intro i r e
    obtain ⟨v, h1, h2⟩ := S.sl i r e
    exact ⟨v, h1, rv_mono (Same.refl _) h2⟩
  · intro q hq
    exact rv_mono (Same.refl _) (S.tm q hq)
/-- seen from the root -/
theorem Stt.root (S : Stt K F g tm s H B al) : Stt K ⟨K.rt.B, K.rt.O, K.rt.P⟩ ⟨[], g.ce⟩ [] [] H B al := by
  have S' := S.bare
  exact { S' with rb := Same.refl _, ro := (fun _ _ e => e), rp := rfl, ot := (fun a us e => S.ot a us (S.ro a _ e)), fb := S.rb.trans S.fb, fo := (fun a o e => S.fo a o (S.ro a o e)), pre := (by rw [S.rp]; exact S.pre) }
end
theorem paired_get {K : KR} {B : Hp} {al : List Addr} : ∀ {vs : List V} {rs : List R} {i : Nat} {r : R}, Paired (RvOk K B al) vs rs → rs[i]? = some r → ∃ v, vs[i]? = some v ∧ RvOk K B al v r
  | _, _, _, _, .nil, e => by simp at e
  | _, _, 0, _, .cons a _, e => by
    simp at e
    subst e
    exact ⟨_, rfl, a⟩
  | _, _, i + 1, r, .cons _ t, e => by
    obtain ⟨v, h1, h2⟩ := paired_get (i := i) (r := r) t (by simpa using e)
    exact ⟨v, by simpa using h1, h2⟩
theorem stt_start {K : KR} {F : Fm} {H B : Hp} {al : List Addr} {ce : List Ct} {N : List Str} {vs : List V} {rs : List R} (S : Stt K F ⟨[], ce⟩ [] [] H B al) (h : Paired (RvOk K B al) vs rs) : Stt K F (g0 N.length rs ce) [] (start N vs) H B al := by
  refine { S with sl := ?_, tm := (fun p hp => nomatch hp), sln := ?_ }
  · intro i r e
    unfold g0 at e
    have hi : i < rs.length := by
      by_cases hi : i < rs.length
      · exact hi
      · have e' : (rs.map some ++ List.replicate (N.length - rs.length) none)[i]? = some (some r) := e
        rw [List.getElem?_append_right (by simpa using hi), List.getElem?_replicate] at e'
        split at e' <;> cases e'
    have e' : (rs.map some ++ List.replicate (N.length - rs.length) none)[i]? = some (some r) := e
    rw [List.getElem?_append_left (by simpa using hi), List.getElem?_map] at e'
    cases er : rs[i]? with
    | none => rw [er] at e'; cases e'
    | some r' =>
      rw [er] at e'
      cases e'
      obtain ⟨v, h1, h2⟩ := paired_get h er
      refine ⟨v, ?_, h2⟩
      unfold L2.start
      rw [List.getElem?_append_left (by rw [List.length_map]; exact (List.getElem?_eq_some_iff.mp h1).1), List.getElem?_map, h1]
      rfl
  · show (rs.map some ++ List.replicate (N.length - rs.length) none).length = (start N vs).length
    unfold L2.start
    rw [List.length_append, List.length_append, List.length_map, List.length_map, List.length_replicate, List.length_replicate, h.length]
section
variable {K : KR} {F : Fm} {g : G} {tm : List (V × R)} {s : L2.St} {H B : Hp} {al : List Addr}
/-- what the callee must leave alone -/
def ownN (F : Fm) (H B : Hp) (al : List Addr) : Hp := fun a => if (al.contains a && (B a).isNone) = true then H a else F.O a
theorem ownN_in {a : Addr} (ha : a ∈ al) (hb : B a = none) : ownN F H B al a = H a := by
  unfold ownN
  rw [if_pos (by rw [hb, Bool.and_eq_true]; exact ⟨List.contains_iff_mem.mpr ha, rfl⟩)]
theorem ownN_out {a : Addr} (ha : a ∉ al) : ownN F H B al a = F.O a := by
  unfold ownN
  rw [if_neg (fun z => ha (List.contains_iff_mem.mp (Bool.and_eq_true_iff.mp z).1))]
theorem ownN_old {a : Addr} (ha : B a ≠ none) : ownN F H B al a = F.O a := by
  unfold ownN
  rw [if_neg (fun z => ha (Option.isNone_iff_eq_none.mp (Bool.and_eq_true_iff.mp z).2))]
theorem Stt.box (S : Stt K F g tm s H B al) {a : Addr} (ha : a ∈ al) : ∀ us, H a ≠ some (.tup us) := by
  obtain ⟨j, hj, e⟩ := List.getElem_of_mem ha
  have e1 : al[j]? = some a := by rw [List.getElem?_eq_getElem hj, e]
  have hj' : j < g.ce.length := by rw [← S.len]; exact hj
  have e2 : g.ce[j]? = some (g.ce[j]'hj') := List.getElem?_eq_getElem hj'
  obtain ⟨o, h1, h2⟩ := ct_box (S.ce j a _ e1 e2)
  intro us h
  rw [h1] at h
  cases h
  exact h2 us rfl
theorem ownN_tup (S : Stt K F g tm s H B al) : ∀ a us, ownN F H B al a ≠ some (.tup us) := fun a us e => by
  by_cases ha : a ∈ al
  · cases hb : B a with
    | none => rw [ownN_in ha hb] at e; exact S.box ha us e
    | some u => rw [ownN_old (by rw [hb]; simp)] at e; exact S.ot a us e
  · rw [ownN_out ha] at e; exact S.ot a us e
theorem call_in (S : Stt K F g tm s H B al) : Stt (kAt K.fr K.rt.cl B (ownN F H B al) []) ⟨B, ownN F H B al, []⟩ ⟨[], []⟩ [] [] H B [] := by
  refine { rb := Same.refl _, ro := (fun _ _ e => e), rp := rfl, ot := ownN_tup S, fb := Same.refl _, bh := S.bh, fo := ?_, pre := ⟨[], rfl⟩, len := rfl, nd := List.nodup_nil, lv := (fun a ha => nomatch ha), nb := (fun j a ct h => by simp at h), ce := (fun j a ct h => by simp at h), sl := (fun i r h => by simp at h), tm := (fun p hp => nomatch hp), sln := rfl }
  intro a o e
  by_cases ha : a ∈ al
  · cases hb : B a with
    | none =>
      have e' : ownN F H B al a = some o := e
      rw [ownN_in ha hb] at e'
      exact ⟨e', rfl, by simp⟩
    | some u =>
      have e' : ownN F H B al a = some o := e
      rw [ownN_old (by rw [hb]; simp)] at e'
      exact absurd ha (S.fo a o e').2.2
  · have e' : ownN F H B al a = some o := e
    rw [ownN_out ha] at e'
    obtain ⟨h1, h2, _⟩ := S.fo a o e'
    exact ⟨h1, h2, by simp⟩
/-- a cell that nobody holds becomes shared -/
theorem Stt.adoptH (S : Stt K F g tm s H B al) {p : Addr} {o : HO} (hp : H p = some o) (hb : B p = none) (ha : p ∉ al) (ho : F.O p = none) : Stt K F g tm s H (upd B p o) al := by
  have eB : Same B (upd B p o) := same_new hb
  refine { rb := S.rb, ro := S.ro, rp := S.rp, ot := S.ot, fb := S.fb.trans eB, bh := ?_, fo := ?_, pre := S.pre, len := S.len, nd := S.nd, lv := S.lv, nb := ?_, ce := ?_, sl := ?_, tm := ?_, sln := S.sln }
  · intro a o e
    by_cases h : a = p
    · subst h; rw [upd_same] at e; cases e; exact hp
    · rw [upd_ne h] at e; exact S.bh _ _ e
  · intro a o e
    obtain ⟨h1, h2, h3⟩ := S.fo a o e
    have ne : a ≠ p := fun z => by subst z; rw [ho] at e; cases e
    exact ⟨h1, by rw [upd_ne ne]; exact h2, h3⟩
  · intro j a ct h1 h2 h3
    have ne : a ≠ p := fun z => ha (z ▸ List.mem_of_getElem? h1)
    rw [upd_ne ne]
    exact S.nb j a ct h1 h2 h3
  · intro j a ct h1 h2
    exact ct_mono0 eB (fun o e => e) (S.ce j a ct h1 h2)
  · intro i r e
    obtain ⟨v, h1, h2⟩ := S.sl i r e
    exact ⟨v, h1, rv_mono0 eB h2⟩
  · intro q hq
    exact rv_mono0 eB (S.tm q hq)
/-- what a new cell of a callee is to its caller -/
def shR : Ct → R
  | .lst ds => .d (.list ds)
  | ct => .m ct
theorem Stt.take (S : Stt K F g tm s H B al) {p : Addr} {ct : Ct} (hl : ∃ o, H p = some o) (hb : B p = none) (ha : p ∉ al) (ho : F.O p = none) (hc : CtOk K B al H p ct) (hd : ct ≠ .dead) : ∃ B', Stt K F g ((.ref p, shR ct) :: tm) s H B' al := by
  cases ct with
  | dead => exact absurd rfl hd
  | lst ds =>
    obtain ⟨xs, h1, h2⟩ := hc
    exact ⟨_, (S.adoptH h1 hb ha ho).push (Dq.lst upd_same (dqall_mono (same_new hb) h2))⟩
  | dK kvs =>
    obtain ⟨xs, h1, h2⟩ := hc
    exact ⟨_, (S.adoptH h1 hb ha ho).push ⟨p, rfl, hd, xs, upd_same, paired_imp (fun _ _ z => ⟨z.1, dq_mono (same_new hb) z.2⟩) h2⟩⟩
  | dT kvs =>
    obtain ⟨xs, h1, h2⟩ := hc
    exact ⟨_, (S.adoptH h1 hb ha ho).push ⟨p, rfl, hd, xs, upd_same, paired_imp (fun _ _ z => ⟨z.1, dq_mono (same_new hb) z.2⟩) h2⟩⟩
  | dN kvs =>
    obtain ⟨xs, h1, h2⟩ := hc
    exact ⟨_, (S.adoptH h1 hb ha ho).push ⟨p, rfl, hd, xs, upd_same, paired_imp (fun _ _ z => ⟨z.1, dq_mono (same_new hb) z.2.1, dq_mono (same_new hb) z.2.2⟩) h2⟩⟩
  | dL kvs =>
    obtain ⟨o, xs, h1, h2⟩ := hc
    exact ⟨_, (S.adoptH h1 hb ha ho).push ⟨p, rfl, hd, o, xs, upd_same, paired_imp (fun _ _ z => ⟨z.1, dq_mono (same_new hb) z.2.1, dq_mono (same_new hb) z.2.2⟩) h2⟩⟩
  | dF kvs =>
    obtain ⟨o, xs, h1, h2⟩ := hc
    exact ⟨_, (S.adoptH h1 hb ha ho).push ⟨p, rfl, hd, o, xs, upd_same, paired_imp (fun _ _ z => ⟨z.1, dq_mono (same_new hb) z.2⟩) h2⟩⟩
end
def isO : R → Option Nat
  | .o j => some j
  | _ => none
def boxes (rs : List R) : List Nat := rs.filterMap isO
def renR (js : List Nat) : R → R
  | .o j => .o (js.idxOf j)
  | r => r
def aliveB : Option Ct → Bool
  | none => false
  | some .dead => false
  | some _ => true
/-- written back -/
def wb (ce : List Ct) : List Nat → List Ct → List Ct
  | j :: js, c :: cs => wb (ce.set j c) js cs
  | _, _ => ce
theorem wb_len : ∀ (js : List Nat) (cs : List Ct) (ce : List Ct), (wb ce js cs).length = ce.length
  | [], _, _ => by simp [wb]
  | _ :: _, [], _ => by simp [wb]
  | j :: js, c :: cs, ce => by unfold wb; rw [wb_len js cs, List.length_set]
theorem wb_out : ∀ (js : List Nat) (cs : List Ct) (ce : List Ct) {i : Nat}, i ∉ js → (wb ce js cs)[i]? = ce[i]?
  | [], _, _, _, _ => by simp [wb]
  | _ :: _, [], _, _, _ => by simp [wb]
  | j :: js, c :: cs, ce, i, h => by
    unfold wb
    rw [wb_out js cs _ (fun z => h (List.mem_cons_of_mem _ z)), List.getElem?_set_ne (fun z => h (by rw [z]; exact List.mem_cons_self))]
theorem wb_in : ∀ (js : List Nat) (cs : List Ct) (ce : List Ct) {i j : Nat}, js.Nodup → cs.length = js.length → (∀ j ∈ js, j < ce.length) → js[i]? = some j → (wb ce js cs)[j]? = cs[i]?
  | [], _, _, _, _, _, _, _, h => by simp at h
  | _ :: _, [], _, _, _, _, h, _, _ => by simp at h
  | j :: js, c :: cs, ce, 0, q, nd, hl, hb, h => by
    have e : j = q := by simpa using h
    subst e
    unfold wb
    rw [wb_out js cs _ (List.nodup_cons.mp nd).1, List.getElem?_set_self (hb _ List.mem_cons_self)]
    rfl
  | j :: js, c :: cs, ce, i + 1, q, nd, hl, hb, h => by
    unfold wb
    rw [wb_in js cs (ce.set j c) (i := i) (j := q) (List.nodup_cons.mp nd).2 (by simpa using hl) (fun z hz => by rw [List.length_set]; exact hb z (List.mem_cons_of_mem _ hz)) (by simpa using h)]
    rfl
structure Bxs (al : List Addr) (ce : List Ct) (js : List Nat) (ps : List Addr) (bx : List Ct) : Prop where
  nd : js.Nodup
  l1 : ps.length = js.length
  l2 : bx.length = js.length
  at_ : ∀ (i j : Nat), js[i]? = some j → ∃ (p : Addr) (ct : Ct), ps[i]? = some p ∧ bx[i]? = some ct ∧ al[j]? = some p ∧ ce[j]? = some ct ∧ ct ≠ Ct.dead
theorem bxs_mk {al : List Addr} {ce : List Ct} (hl : al.length = ce.length) : ∀ {js : List Nat}, js.Nodup → (∀ j ∈ js, aliveB ce[j]? = true) → ∃ ps, Bxs al ce js ps (js.map fun j => ce.getD j .dead) := by
  intro js nd h
  refine ⟨js.map fun j => al.getD j 0, nd, List.length_map .., List.length_map .., fun i j e => ?_⟩
  have hj := h j (List.mem_of_getElem? e)
  cases hc : ce[j]? with
  | none => rw [hc] at hj; cases hj
  | some ct =>
    have hlt := (List.getElem?_eq_some_iff.mp hc).1
    have hal : al[j]? = some (al.getD j 0) := by rw [List.getD_eq_getElem?_getD, List.getElem?_eq_getElem (by omega)]; rfl
    refine ⟨_, ct, by rw [List.getElem?_map, e]; rfl, by rw [List.getElem?_map, e, Option.map_some, List.getD_eq_getElem?_getD, hc]; rfl, hal, rfl, fun z => ?_⟩
    rw [hc, z] at hj
    cases hj
section
variable {K : KR} {F : Fm} {g : G} {tm : List (V × R)} {s : L2.St} {H B : Hp} {al : List Addr} {js : List Nat} {ps : List Addr} {bx : List Ct}
theorem Bxs.mem (b : Bxs al g.ce js ps bx) {p : Addr} (hp : p ∈ ps) : ∃ (i j : Nat) (ct : Ct), ps[i]? = some p ∧ js[i]? = some j ∧ bx[i]? = some ct ∧ al[j]? = some p ∧ g.ce[j]? = some ct ∧ ct ≠ Ct.dead := by
  obtain ⟨i, hi, e⟩ := List.mem_iff_getElem.mp hp
  have hj : js[i]? = some (js[i]'(by rw [← b.l1]; exact hi)) := List.getElem?_eq_getElem _
  obtain ⟨p', ct, e1, e2, e3, e4, e5⟩ := b.at_ i _ hj
  have e0 : ps[i]? = some p := by rw [List.getElem?_eq_getElem hi, e]
  rw [e0] at e1
  cases e1
  exact ⟨i, _, ct, e0, hj, e2, e3, e4, e5⟩
theorem Bxs.pnd (b : Bxs al g.ce js ps bx) (hn : al.Nodup) : ps.Nodup := by
  refine List.pairwise_iff_getElem.mpr fun i k hi hk hik e0 => ?_
  have e : ps[i]? = ps[k]? := by rw [List.getElem?_eq_getElem hi, List.getElem?_eq_getElem hk, e0]
  have j1 : js[i]? = some (js[i]'(by rw [← b.l1]; exact hi)) := List.getElem?_eq_getElem _
  have j2 : js[k]? = some (js[k]'(by rw [← b.l1]; exact hk)) := List.getElem?_eq_getElem _
  obtain ⟨p1, _, a1, _, a3, _⟩ := b.at_ i _ j1
  obtain ⟨p2, _, b1, _, b3, _⟩ := b.at_ k _ j2
  rw [a1, b1] at e
  cases e
  have z := (List.getElem?_inj (List.getElem?_eq_some_iff.mp a3).1 hn).mp (a3.trans b3.symm)
  have z2 := (List.getElem?_inj (List.getElem?_eq_some_iff.mp j1).1 b.nd).mp (j1.trans (by rw [j2, z]))
  omega
def ownP (F : Fm) (H B : Hp) (al ps : List Addr) : Hp := fun a => if ps.contains a = true then none else ownN F H B al a
theorem ownP_in {a : Addr} (h : a ∈ ps) : ownP F H B al ps a = none := by unfold ownP; rw [if_pos (List.contains_iff_mem.mpr h)]
theorem ownP_out {a : Addr} (h : a ∉ ps) : ownP F H B al ps a = ownN F H B al a := by unfold ownP; rw [if_neg (fun z => h (List.contains_iff_mem.mp z))]
theorem callP_in (S : Stt K F g tm s H B al) (b : Bxs al g.ce js ps bx) : Stt (kAt K.fr K.rt.cl B (ownP F H B al ps) ps) ⟨B, ownP F H B al ps, ps⟩ ⟨[], bx⟩ [] [] H B ps := by
  have S0 := call_in S
  have get : ∀ (i : Nat) (a : Addr) (ct : Ct), ps[i]? = some a → bx[i]? = some ct → ∃ j, al[j]? = some a ∧ g.ce[j]? = some ct ∧ ct ≠ .dead := fun i a ct e1 e2 => by
    have hi : i < js.length := by rw [← b.l1]; exact (List.getElem?_eq_some_iff.mp e1).1
    obtain ⟨p', ct', q1, q2, q3, q4, q5⟩ := b.at_ i _ (List.getElem?_eq_getElem hi)
    rw [e1] at q1
    rw [e2] at q2
    cases q1
    cases q2
    exact ⟨_, q3, q4, q5⟩
  refine { rb := Same.refl _, ro := (fun _ _ e => e), rp := rfl, ot := (fun a us e => by
    by_cases ha : a ∈ ps
    · have e : ownP F H B al ps a = some _ := e
      rw [ownP_in ha] at e; cases e
    · have e : ownP F H B al ps a = some _ := e
      rw [ownP_out ha] at e
      exact ownN_tup S a us e), fb := Same.refl _, bh := S.bh, fo := ?_, pre := ⟨[], (List.append_nil _).symm⟩, len := by rw [b.l1, b.l2], nd := b.pnd S.nd, lv := ?_, nb := ?_, ce := ?_, sl := (fun i r h => by simp at h), tm := (fun p hp => nomatch hp), sln := rfl }
  · intro a o e
    have e' : ownP F H B al ps a = some o := e
    by_cases ha : a ∈ ps
    · rw [ownP_in ha] at e'; cases e'
    · rw [ownP_out ha] at e'
      obtain ⟨q1, q2, _⟩ := S0.fo a o e'
      exact ⟨q1, q2, ha⟩
  · intro a ha
    obtain ⟨i, j, ct, _, _, _, e3, _⟩ := b.mem ha
    exact S.lv a (List.mem_of_getElem? e3)
  · intro i a ct e1 e2 e3
    obtain ⟨j, q1, q2, q3⟩ := get i a ct e1 e2
    exact S.nb j a ct q1 q2 q3
  · intro i a ct e1 e2
    obtain ⟨j, q1, q2, q3⟩ := get i a ct e1 e2
    exact ct_any (S.ce j a ct q1 q2)
theorem callP_out (S : Stt K F g tm s H B al) (b : Bxs al g.ce js ps bx) {H' B' : Hp} {al' : List Addr} {bx' ce' : List Ct} (hl : bx'.length = ps.length) (S' : Stt (kAt K.fr K.rt.cl B (ownP F H B al ps) ps) ⟨B, ownP F H B al ps, ps⟩ ⟨[], bx' ++ ce'⟩ [] [] H' B' al') :
    Stt K F { g with ce := wb g.ce js bx' } tm s H' B' al := by
  have eB : Same B B' := S'.fb
  obtain ⟨t, ht⟩ := S'.pre
  have ht : al' = ps ++ t := ht
  have hjl : ∀ j ∈ js, j < g.ce.length := fun j hj => by
    obtain ⟨i, hi, e⟩ := List.mem_iff_getElem.mp hj
    obtain ⟨_, _, _, _, _, q4, _⟩ := b.at_ i j (by rw [List.getElem?_eq_getElem hi, e])
    exact (List.getElem?_eq_some_iff.mp q4).1
  have hlj : bx'.length = js.length := by rw [hl, b.l1]
  have old : ∀ a ∈ al, a ∉ ps → B a = none → ∀ o, H a = some o → H' a = some o ∧ B' a = none := fun a ha hp hb o ho => by
    obtain ⟨q1, q2, _⟩ := S'.fo a o (by show ownP F H B al ps a = some o; rw [ownP_out hp, ownN_in ha hb]; exact ho)
    exact ⟨q1, q2⟩
  -- which cell
  have cell : ∀ (j : Nat) (a : Addr) (ct : Ct), al[j]? = some a → (wb g.ce js bx')[j]? = some ct → (∃ i, ps[i]? = some a ∧ bx'[i]? = some ct) ∨ (a ∉ ps ∧ g.ce[j]? = some ct) := fun j a ct e1 e2 => by
    by_cases hj : j ∈ js
    · obtain ⟨i, hi, e⟩ := List.mem_iff_getElem.mp hj
      have hji : js[i]? = some j := by rw [List.getElem?_eq_getElem hi, e]
      obtain ⟨p, c, q1, q2, q3, q4, q5⟩ := b.at_ i j hji
      rw [e1] at q3
      cases q3
      rw [wb_in js bx' g.ce b.nd hlj hjl hji] at e2
      exact .inl ⟨i, q1, e2⟩
    · rw [wb_out js bx' _ hj] at e2
      refine .inr ⟨fun ha => ?_, e2⟩
      obtain ⟨i, j', c, _, q2, _, q4, _⟩ := b.mem ha
      have z := (List.getElem?_inj (List.getElem?_eq_some_iff.mp e1).1 S.nd).mp (e1.trans q4.symm)
      subst z
      exact hj (List.mem_of_getElem? q2)
  have inS : ∀ (i : Nat) (a : Addr) (ct : Ct), ps[i]? = some a → bx'[i]? = some ct → al'[i]? = some a ∧ (bx' ++ ce')[i]? = some ct := fun i a ct e1 e2 => by
    rw [ht, List.getElem?_append_left (List.getElem?_eq_some_iff.mp e1).1, List.getElem?_append_left (List.getElem?_eq_some_iff.mp e2).1]
    exact ⟨e1, e2⟩
  refine { rb := S.rb, ro := S.ro, rp := S.rp, ot := S.ot, fb := S.fb.trans eB, bh := S'.bh, fo := ?_, pre := S.pre, len := by rw [wb_len]; exact S.len, nd := S.nd, lv := ?_, nb := ?_, ce := ?_, sl := ?_, tm := ?_, sln := S.sln }
  · intro a o e
    obtain ⟨z1, z2, z3⟩ := S.fo a o e
    have ne : a ∉ ps := fun z => by
      obtain ⟨_, _, _, _, _, _, q, _⟩ := b.mem z
      exact z3 (List.mem_of_getElem? q)
    obtain ⟨q1, q2, _⟩ := S'.fo a o (by show ownP F H B al ps a = some o; rw [ownP_out ne, ownN_out z3]; exact e)
    exact ⟨q1, q2, z3⟩
  · intro a ha
    by_cases hp : a ∈ ps
    · exact S'.lv a (by rw [ht]; exact List.mem_append_left _ hp)
    · obtain ⟨o, ho⟩ := S.lv a ha
      cases hb : B a with
      | none => exact ⟨o, (old a ha hp hb o ho).1⟩
      | some u => exact ⟨u, S'.bh _ _ (eB _ _ hb)⟩
  · intro j a ct e1 e2 e3
    rcases cell j a ct e1 e2 with ⟨i, q1, q2⟩ | ⟨q1, q2⟩
    · obtain ⟨z1, z2⟩ := inS i a ct q1 q2
      exact S'.nb i a ct z1 z2 e3
    · obtain ⟨o, ho⟩ := S.lv a (List.mem_of_getElem? e1)
      exact (old a (List.mem_of_getElem? e1) q1 (S.nb j a ct e1 q2 e3) o ho).2
  · intro j a ct e1 e2
    rcases cell j a ct e1 e2 with ⟨i, q1, q2⟩ | ⟨q1, q2⟩
    · obtain ⟨z1, z2⟩ := inS i a ct q1 q2
      exact ct_any (S'.ce i a ct z1 z2)
    · by_cases hdd : ct = .dead
      · subst hdd
        obtain ⟨o, h3, h4⟩ := S.ce j a _ e1 q2
        cases hb : B a with
        | none => exact ⟨o, (old a (List.mem_of_getElem? e1) q1 hb o h3).1, h4⟩
        | some u =>
          have := S.bh _ _ hb
          rw [h3] at this
          cases this
          exact ⟨o, S'.bh _ _ (eB _ _ hb), h4⟩
      · exact ct_mono0 eB (fun o e => (old a (List.mem_of_getElem? e1) q1 (S.nb j a ct e1 q2 hdd) o e).1) (S.ce j a ct e1 q2)
  · intro i r e
    obtain ⟨v, q1, q2⟩ := S.sl i r e
    exact ⟨v, q1, rv_mono0 eB q2⟩
  · intro q hq
    exact rv_mono0 eB (S.tm q hq)
theorem callP_new (S : Stt K F g tm s H B al) (b : Bxs al g.ce js ps bx) {H' B' : Hp} {al' : List Addr} {ce' : List Ct} {j : Nat} {p : Addr} {ct : Ct} (S' : Stt (kAt K.fr K.rt.cl B (ownP F H B al ps) ps) ⟨B, ownP F H B al ps, ps⟩ ⟨[], ce'⟩ [] [] H' B' al') (hj : ps.length ≤ j)
    (e1 : al'[j]? = some p) (e2 : ce'[j]? = some ct) (e3 : ct ≠ .dead) : (∃ o, H' p = some o) ∧ B' p = none ∧ p ∉ al ∧ F.O p = none ∧ CtOk K B' al H' p ct := by
  have hx := S'.ce j p _ e1 e2
  have hb := S'.nb j p _ e1 e2 e3
  have hm := List.mem_of_getElem? e1
  obtain ⟨t, ht⟩ := S'.pre
  have ht : al' = ps ++ t := ht
  have np : p ∉ ps := fun z => by
    obtain ⟨i, hi, e⟩ := List.mem_iff_getElem.mp z
    have z0 : al'[i]? = some p := by rw [ht, List.getElem?_append_left hi, List.getElem?_eq_getElem hi, e]
    have := (List.getElem?_inj (List.getElem?_eq_some_iff.mp e1).1 S'.nd).mp (e1.trans z0.symm)
    omega
  refine ⟨S'.lv p hm, hb, fun ha => ?_, ?_, ct_any hx⟩
  · cases hB : B p with
    | none =>
      obtain ⟨o, ho⟩ := S.lv p ha
      exact (S'.fo p o (by show ownP F H B al ps p = some o; rw [ownP_out np, ownN_in ha hB]; exact ho)).2.2 hm
    | some u => rw [S'.fb _ _ hB] at hb; cases hb
  · cases hF : F.O p with
    | none => rfl
    | some o => exact absurd hm (S'.fo p o (by show ownP F H B al ps p = some o; rw [ownP_out np, ownN_out (S.fo p o hF).2.2]; exact hF)).2.2
def noL : R → Bool
  | .l _ => false
  | _ => true
theorem paired_ren {O : Hp} (b : Bxs al g.ce js ps bx) {vs : List V} {rs : List R} (h : Paired (RvOk K B al) vs rs) : rs.all noL = true → (∀ j ∈ boxes rs, j ∈ js) → Paired (RvOk (kAt K.fr K.rt.cl B O ps) B ps) vs (rs.map (renR js)) := by
  induction h with
  | nil => intro _ _; exact .nil
  | @cons v r vs rs a t ih =>
    intro hno hj
    rw [List.all_cons, Bool.and_eq_true] at hno
    refine .cons ?_ (ih hno.2 fun j h => hj j ?_)
    · cases r with
      | d x => exact a
      | s ns => exact a
      | x n => exact a
      | l js => exact absurd hno.1 (by simp [noL])
      | m ct =>
        obtain ⟨p, e1, e2, e3⟩ := a
        exact ⟨p, e1, e2, ct_any e3⟩
      | o j =>
        obtain ⟨p, e1, e2⟩ := a
        have hm : j ∈ js := hj j (by unfold boxes; rw [List.filterMap_cons]; exact List.mem_cons_self)
        have hi : js.idxOf j < js.length := List.idxOf_lt_length_of_mem hm
        obtain ⟨p', _, q1, _, q3, _⟩ := b.at_ (js.idxOf j) j (by rw [List.getElem?_eq_getElem hi, List.getElem_idxOf hi])
        rw [e1] at q3
        cases q3
        exact ⟨p, q1, e2⟩
    · unfold boxes at h ⊢
      rw [List.filterMap_cons]
      cases isO r with
      | none => exact h
      | some i => exact List.mem_cons_of_mem _ h
end
section
variable {X : Cx} {k : Nat} {f : Addr} {fd : FuncData} {ps : List Str} {sp : Sp} {E : L2.St → XK} {x : Str} {p pos : Pos} {e : Expr} {es : List Expr} {t : TA}
theorem run_fnG {pins : List (Addr × Obj)} {σ : L2.St} {H : Hp} {s : Shared} {Q : VK} {us : List Value} {vs : List V} (F : FnG X.prog X.w X.K X.mg X.base (L2.CX X.prog X.w) k f fd ps sp) (hr : Calm k X.A) (hb : Binds X.K fd ps []) (hx : PassesAt (L2.CX X.prog X.w) X σ (E σ))
    (I : Inv X pins σ H s) (r : Vals vs us) (h : sp vs H Q (E σ)) : wpAny (model X.prog X.w) X.A (call (.ref f) us) (EP X pins σ Q) X.xe s := by
  have hl : us.length = ps.length := by rw [← r.length]; exact F.count _ _ _ _ h
  have b := hb s us I.kIn (by rw [List.append_nil]; exact hl)
  rw [List.append_nil] at b
  exact runs_G (as := ⟨us, []⟩) F hr I (fun v s' q => hx pins H s v s' I q) b r h
theorem pe_callG (F : FnG X.prog X.w X.K X.mg X.base (L2.CX X.prog X.w) k f fd ps sp) (hr : Calm k X.A) (hg : Gl X x) (hm : X.mg x = some (.ref f)) (hk : PySem.W.keepIn X.K (.ref f) = true) (hb : Binds X.K fd ps []) (hx : ∀ σ, PassesAt (L2.CX X.prog X.w) X σ (E σ))
    (ha : PA X (e :: es) t) (hdb : (x == ("__debug__" : Str)) = false := by decide) (he : starEach (e :: es) X.env = (false, eval e X.env) :: starEach es X.env := by rfl) (hpl : (backTo pos (starEach es X.env)).any (·.1) = false := by rfl) :
    PE X (.Call (.Name x p) (e :: es) [] pos) (tCallS sp E t) := by
  refine ⟨fun pins s σ H Q I h => ?_⟩
  refine wpAny_Call_Name_kw (ld_glob I hg hm ?_ hdb)
  refine PySem.W.callWith_K (h₀ := X.base) I.ok.mod.kin hk (thn (ha.run pos pins s σ H _ I h) fun us s1 ⟨vs, H1, I1, r, q⟩ => ⟨I1.kIn, ?_⟩) he hpl
  exact run_fnG F hr hb (hx σ) I1 r q
end
end DL
set_option Elab.async false
set_option linter.all false
set_option maxRecDepth 100000
set_option maxHeartbeats 4000000
set_option autoImplicit false
namespace DZ
open PySem
open PySem.Sem (wp)
/-- a zip, strict: false -/
abbrev IsZP (h : Heap) (z TI TO : Addr) (f0 : Value) (f : Bool) : Prop := h.get? z = some { cls := .type "zip", dict := none, data := .fields #[f0, .bool f, .bool false, .ref TI, .ref TO], slots := #[] }
section
variable {prog : Program} {w : World} {A : Around} {E : Value → Shared → Prop} {s : Shared}
theorem goP {elts : List Expr} {x1 : Nat} {pos : Pos} {z TI TO T : Addr} {f : Bool} {Q : Unit → Shared → Prop} (hz : IsZP s.heap z TI TO (rawInt T) f) (hQ : ∀ h', IsZP h' z TI TO .none f → Heap.SameBut z s.heap h' → Q () { s with heap := h' }) :
    wpAny (model prog w) A (letOwnedTupleGo (.Tuple elts x1 pos) (.ref z) (.ref T)) Q E s := by
  unfold letOwnedTupleGo
  refine wpAny_bind (wpAny_load hz ?_)
  show wpAny _ _ (if (["enumerate", "zip", "dict_itemiterator", "dict_reverseitemiterator", "odict_iterator", "itertools.zip_longest", "itertools.pairwise"].contains "zip" &&
      (#[rawInt T, .bool f, .bool false, .ref TI, .ref TO] : Array Value)[0]? == some (rawInt T)) = true then _ else _) Q E s
  rw [if_pos (by simp)]
  refine wpAny_bind (wpAny_rule ?_)
  show wpAny _ _ (setField (.ref z) 0 .none) Q E s
  exact wpAny_setField_rec hz (by simp) fun h' hz' hs' => hQ h' hz' hs'
theorem iterP {z TI TO : Addr} {f0 : Value} {f : Bool} {Q : Value → Shared → Prop} (hz : IsZP s.heap z TI TO f0 f) (h : Q (.ref z) s) : wpAny (model prog w) A (pyIter (.ref z)) Q E s := by
  have hT : s.TypeIs (.ref z) "zip" := ⟨_, hz, rfl⟩
  refine wpAny_pyIter_slot hT F.slot_zip_iter (wpAny_call_entry F.slot_zip_iter hT F.entry_zip_iter ?_ (F.args_zip_iter_1 _))
  show wpAny _ _ (ret (.ref z)) _ _ s
  exact wpAny_pure ⟨_, rfl, "zip", _, hT, F.slot_zip_next.lookup, h⟩
end
section
variable {prog : Program} {w : World} {A : Around} {E : Value → Shared → Prop} {s : Shared} {z TI TO i1 i2 : Addr} {fp1 fp2 : List Addr} {m i : Nat} {P1 P2 : Nat → Value → Prop} {St1 St2 : Nat → Heap → Prop} {a1 a2 : Value} {f : Bool}
theorem zP2_item {Q : Value → Shared → Prop} (S : ZipSep2 z TI TO i1 i2 fp1 fp2) (D1 : Draws prog w A i1 fp1 m P1 St1) (D2 : Draws prog w A i2 fp2 m P2 St2)
    (hz : IsZP s.heap z TI TO .none f) (hTI : IsTupOf2 s.heap TI (.ref i1) (.ref i2)) (hTO : IsTupOf2 s.heap TO a1 a2) (st1 : St1 i s.heap) (st2 : St2 i s.heap) (hlt : i < m)
    (hQ : ∀ x1 x2 h' tk, P1 i x1 → P2 i x2 → IsZP h' z TI TO (rawInt s.heap.objs.size) false → IsTupOf2 h' TO x1 x2 → St1 (i + 1) h' → St2 (i + 1) h' → IsTupOf2 h' s.heap.objs.size x1 x2 → h'.objs.size = s.heap.objs.size + 1 →
      (∀ c o, c ≠ z → c ≠ TO → c ≠ i1 → c ≠ i2 → s.heap.get? c = some o → h'.get? c = some o) → Q (.ref s.heap.objs.size) { s with heap := h', toks := tk }) :
    wpAny (model prog w) A (Builtin.«zip.__next__» ⟨[.ref z], []⟩) (fun fin s' => ∃ v, fin = .done (.ret v) ∧ Q v s') E s := by
  obtain ⟨hp, g, d, tk0, os⟩ := s
  show wpAny _ _ (field (.ref z) 2 >>= _) _ _ _
  refine wpAny_bind (wpAny_field hz rfl (x := .bool false) rfl ?_)
  show wpAny _ _ (field (.ref z) 3 >>= _) _ _ _
  refine wpAny_bind (wpAny_field hz rfl (x := .ref TI) rfl ?_)
  refine wpAny_bind (wpAny_seqItems hTI rfl ?_)
  show wpAny _ _ (Builtin.SmallTypes.ownedTupleIsFree (.ref z) >>= _) _ _ _
  refine wpAny_bind ?_
  unfold Builtin.SmallTypes.ownedTupleIsFree
  refine wpAny_bind (wpAny_field hz rfl (x := .none) rfl (wpAny_pure ?_))
  simp only [if_true]
  refine wpAny_bind (wpAny_rule ?_)
  refine wpAny_bind (wpAny_field hz rfl (x := .ref TO) rfl ?_)
  refine wpAny_bind (wpAny_setField_rec hz (by simp) fun g0 hz0 hs0 => ?_)
  replace hz0 : IsZP g0 z TI TO .ellipsis f := hz0
  replace hs0 : Heap.SameBut z hp g0 := hs0
  refine wpAny_bind ?_
  simp only [List.zipIdx_cons, List.zipIdx_nil, List.forIn_cons, List.forIn_nil]
  refine wpAny_bind (wpAny_bind (wpAny_onRaise ?_))
  show wpAny _ _ (Builtin.SmallTypes.nextOf (.ref i1) >>= _) _ _ ⟨g0, g, d, tk0, os⟩
  refine wpAny_bind (D1.item i _ _ _ hlt (D1.over st1 hs0 S.zf1) fun x1 p1 tk1 hx1 sn1 hp1 => wpAny_pure ?_)
  replace hp1 : Heap.SameBut i1 g0 p1 := hp1
  have hU1 : IsTupOf2 p1 TO a1 a2 := hp1.extBut _ _ S.Ti1 (hs0.extBut _ _ S.TOz hTO)
  refine wpAny_bind (wpAny_seqItems (s := ⟨p1, g, d, tk1, os⟩) hU1 rfl ?_)
  refine wpAny_bind (updateSeq_IsTupOf2 (s := ⟨p1, g, d, tk1, os⟩) hU1 fun g1 hT1 hs1 => ?_)
  replace hT1 : IsTupOf2 g1 TO x1 a2 := hT1
  replace hs1 : Heap.SameBut TO p1 g1 := hs1
  refine wpAny_bind (wpAny_letGo (wpAny_pure ?_))
  refine wpAny_bind (wpAny_bind (wpAny_onRaise ?_))
  show wpAny _ _ (Builtin.SmallTypes.nextOf (.ref i2) >>= _) _ _ ⟨g1, g, d, tk1, os⟩
  refine wpAny_bind (D2.item i _ _ _ hlt (D2.over (D2.over (D2.over st2 hs0 S.zf2) hp1 S.sep1_2) hs1 S.Tf2) fun x2 p2 tk2 hx2 sn2 hp2 => wpAny_pure ?_)
  replace hp2 : Heap.SameBut i2 g1 p2 := hp2
  have hU2 : IsTupOf2 p2 TO x1 a2 := hp2.extBut _ _ S.Ti2 hT1
  refine wpAny_bind (wpAny_seqItems (s := ⟨p2, g, d, tk2, os⟩) hU2 rfl ?_)
  refine wpAny_bind (updateSeq_IsTupOf2 (s := ⟨p2, g, d, tk2, os⟩) hU2 fun g2 hT2 hs2 => ?_)
  replace hT2 : IsTupOf2 g2 TO x1 x2 := hT2
  replace hs2 : Heap.SameBut TO p2 g2 := hs2
  refine wpAny_bind (wpAny_letGo (wpAny_pure (wpAny_pure ?_)))
  refine wpAny_bind (wpAny_seqItems (s := ⟨g2, g, d, tk2, os⟩) hT2 rfl ?_)
  refine wpAny_bind (wpAny_newTuple ?_)
  have hsz : g2.objs.size = hp.objs.size := by rw [hs2.1, hp2.1, hs1.1, hp1.1, hs0.1]
  have hzz : IsZP g2 z TI TO .ellipsis f := hs2.extBut _ _ S.TOz.symm (hp2.extBut _ _ S.zi2 (hs1.extBut _ _ S.TOz.symm (hp1.extBut _ _ S.zi1 (hz0))))
  have hkk : ∀ c o, c ≠ z → c ≠ TO → c ≠ i1 → c ≠ i2 → hp.get? c = some o → g2.get? c = some o := fun c o cz cT c1 c2 e => hs2.extBut _ _ cT (hp2.extBut _ _ c2 (hs1.extBut _ _ cT (hp1.extBut _ _ c1 (hs0.extBut _ _ cz e))))
  have hj1 : St1 (i + 1) g2 := D1.over (D1.over (D1.over sn1 hs1 S.Tf1) hp2 S.sep2_1) hs2 S.Tf1
  have hj2 : St2 (i + 1) g2 := D2.over sn2 hs2 S.Tf2
  have hzlt : z < g2.objs.size := Heap.lt_size hzz
  show wpAny _ _ (Builtin.SmallTypes.ownedTupleHandOut (.ref z) (.ref g2.objs.size) >>= _) _ _ ⟨g2.push { cls := .type "tuple", data := .seq #[x1, x2] }, g, d, tk2, os⟩
  refine wpAny_bind ?_
  unfold Builtin.SmallTypes.ownedTupleHandOut
  have hz6 : IsZP (g2.push { cls := .type "tuple", data := .seq #[x1, x2] }) z TI TO .ellipsis f := Heap.get?_push_of_some _ hzz
  refine wpAny_bind (wpAny_setField_rec hz6 (by simp) fun h7 hz7 hs7 => ?_)
  replace hz7 : IsZP h7 z TI TO (rawInt g2.objs.size) f := hz7
  refine wpAny_setField_rec hz7 (by simp) fun h8 hz8 hs8 => ?_
  replace hz8 : IsZP h8 z TI TO (rawInt g2.objs.size) false := hz8
  replace hs7 : Heap.SameBut z (g2.push { cls := .type "tuple", data := .seq #[x1, x2] }) h7 := hs7
  replace hs8 : Heap.SameBut z h7 h8 := hs8
  have up : ∀ c o, c ≠ z → g2.get? c = some o → h8.get? c = some o := fun c o c1 e => hs8.extBut _ _ c1 (hs7.extBut _ _ c1 (Heap.get?_push_of_some _ e))
  have hT8 : IsTupOf2 h8 g2.objs.size x1 x2 := hs8.extBut _ _ (Nat.ne_of_gt hzlt) (hs7.extBut _ _ (Nat.ne_of_gt hzlt) (Heap.get?_push_size _ rfl))
  have hz9 : h8.objs.size = g2.objs.size + 1 := by rw [hs8.1, hs7.1, Heap.size_push]
  rw [hsz] at hz8 hT8 hz9
  refine wpAny_pure ⟨_, rfl, ?_⟩
  show Q (.ref g2.objs.size) ⟨h8, g, d, tk2, os⟩
  rw [hsz]
  exact hQ x1 x2 h8 tk2 hx1 hx2 hz8 (up _ _ S.TOz hT2) (D1.frame _ _ _ hj1 fun b hb o e => up b o (fun q => S.zf1 (q ▸ hb)) e) (D2.frame _ _ _ hj2 fun b hb o e => up b o (fun q => S.zf2 (q ▸ hb)) e) hT8 hz9 fun c o cz cT c1 c2 e => up c o cz (hkk c o cz cT c1 c2 e)
theorem zP2_end {Q : Fin → Shared → Prop} (hh : A.handled = none) (S : ZipSep2 z TI TO i1 i2 fp1 fp2) (D1 : Draws prog w A i1 fp1 m P1 St1) (D2 : Draws prog w A i2 fp2 m P2 St2)
    (hz : IsZP s.heap z TI TO .none f) (hTI : IsTupOf2 s.heap TI (.ref i1) (.ref i2)) (st1 : St1 m s.heap) (st2 : St2 m s.heap)
    (hE : ∀ h' tk e, (∀ c o, c ≠ z → c ≠ i1 → c ≠ i2 → s.heap.get? c = some o → h'.get? c = some o) → (∃ o, h'.get? e = some o ∧ o.cls = .type "StopIteration") → E (.ref e) { s with heap := h', toks := tk }) :
    wpAny (model prog w) A (Builtin.«zip.__next__» ⟨[.ref z], []⟩) Q E s := by
  obtain ⟨hp, g, d, tk0, os⟩ := s
  show wpAny _ _ (field (.ref z) 2 >>= _) _ _ _
  refine wpAny_bind (wpAny_field hz rfl (x := .bool false) rfl ?_)
  show wpAny _ _ (field (.ref z) 3 >>= _) _ _ _
  refine wpAny_bind (wpAny_field hz rfl (x := .ref TI) rfl ?_)
  refine wpAny_bind (wpAny_seqItems hTI rfl ?_)
  show wpAny _ _ (Builtin.SmallTypes.ownedTupleIsFree (.ref z) >>= _) _ _ _
  refine wpAny_bind ?_
  unfold Builtin.SmallTypes.ownedTupleIsFree
  refine wpAny_bind (wpAny_field hz rfl (x := .none) rfl (wpAny_pure ?_))
  simp only [if_true]
  refine wpAny_bind (wpAny_rule ?_)
  refine wpAny_bind (wpAny_field hz rfl (x := .ref TO) rfl ?_)
  refine wpAny_bind (wpAny_setField_rec hz (by simp) fun g0 hz0 hs0 => ?_)
  replace hz0 : IsZP g0 z TI TO .ellipsis f := hz0
  replace hs0 : Heap.SameBut z hp g0 := hs0
  refine wpAny_bind ?_
  simp only [List.zipIdx_cons, List.zipIdx_nil, List.forIn_cons, List.forIn_nil]
  refine wpAny_bind (wpAny_bind (wpAny_onRaise ?_))
  show wpAny _ _ (Builtin.SmallTypes.nextOf (.ref i1) >>= _) _ _ ⟨g0, g, d, tk0, os⟩
  refine wpAny_bind (D1.done ⟨g0, g, d, tk0, os⟩ _ _ (D1.over st1 hs0 S.zf1) fun q e hq he => ?_)
  replace hq : Heap.ExtBut i1 g0 q := hq
  obtain ⟨oe, hoe, hce⟩ := he
  replace hoe : q.get? e = some oe := hoe
  have hzq : IsZP q z TI TO .ellipsis f := hq _ _ S.zi1 hz0
  have hez : e ≠ z := fun x => by subst x; rw [hzq] at hoe; cases hoe; simp at hce
  refine wpAny_setField_rec (s := ⟨q, g, d, tk0, os⟩) hzq (by simp) fun q' _ hq' => ?_
  replace hq' : Heap.SameBut z q q' := hq'
  exact hE q' tk0 e (fun c o cz c1 c2 x => hq'.extBut _ _ cz (hq _ _ c1 (hs0.extBut _ _ cz x))) ⟨oe, hq'.extBut _ _ hez hoe, hce⟩
end
end DZ
set_option Elab.async false
set_option linter.all false
set_option maxRecDepth 100000
set_option maxHeartbeats 4000000
set_option autoImplicit false
namespace DZ
open PySem
open PySem.Sem (wp)
def IterAt (t : Bool) (h : Heap) (it l : Addr) (i : Nat) : Prop := match t with
  | true => h.IsTupleIter it l i
  | false => h.IsListIter it l i
def ItemsAt (t : Bool) (h : Heap) (l : Addr) (items : Array Value) : Prop := match t with
  | true => h.IsTuple l items
  | false => h.IsList l items
theorem drawsB {prog : Program} {w : World} {A : Around} (t : Bool) (hh : A.handled = none) (it l : Addr) (hne : l ≠ it) (items : Array Value) : Draws prog w A it [it, l] items.size (fun i v => items[i]? = some v) (fun i h => IterAt t h it l i ∧ ItemsAt t h l items) := by
  cases t with
  | true => exact Draws.tuple hh it l hne items
  | false => exact Draws.list hh it l hne items
def itObj (t : Bool) (l : Addr) : Obj := match t with
  | true => { cls := .type "tuple_iterator", data := .fields #[.ref l, .int 0 0] }
  | false => { cls := .type "list_iterator", data := .fields #[.ref l, .int 0 0] }
theorem beginsB (t : Bool) (l : Addr) (items : Array Value) : Begins (.ref l) (itObj t l) fun h => ItemsAt t h l items := by
  cases t with
  | true => exact begins_tuple l items
  | false => exact begins_list l items
theorem IterAt.start {t : Bool} {h : Heap} {it l : Addr} (e : h.get? it = some (itObj t l)) : IterAt t h it l 0 := by
  cases t with
  | true => exact ⟨_, e, rfl, rfl⟩
  | false => exact ⟨_, e, rfl, rfl⟩
theorem IterAt.move {t : Bool} {h h' : Heap} {it l : Addr} {i : Nat} (x : IterAt t h it l i) (k : ∀ o, h.get? it = some o → h'.get? it = some o) : IterAt t h' it l i := by
  cases t with
  | true => exact Heap.IsTupleIter.at x k
  | false => exact Heap.IsListIter.at x k
theorem IterAt.obj {t : Bool} {h : Heap} {it l : Addr} {i : Nat} (x : IterAt t h it l i) : ∃ o, h.get? it = some o ∧ ∀ v, o.data ≠ .cell v := by
  cases t with
  | true =>
    obtain ⟨o, e, _, d⟩ := x
    exact ⟨o, e, fun v q => by rw [d] at q; cases q⟩
  | false =>
    obtain ⟨o, e, _, d⟩ := x
    exact ⟨o, e, fun v q => by rw [d] at q; cases q⟩
theorem ItemsAt.lt {t : Bool} {h : Heap} {l : Addr} {items : Array Value} (x : ItemsAt t h l items) : l < h.objs.size := by
  cases t with
  | true => obtain ⟨o, e, _⟩ := x; exact Heap.lt_size e
  | false => obtain ⟨o, e, _⟩ := x; exact Heap.lt_size e
end DZ
namespace DL
open PySem PySem.Spec PyProof.Rows L2
theorem seqB_at {X : Cx} {pins : List (Addr × Obj)} {s : L2.St} {H : Hp} {sh : Shared} {t : Bool} {a : Addr} {xs : List V} (I : Inv X pins s H sh) (h : SqB X.K t H a xs) : ∃ its : List Value, Vals xs its ∧ DZ.ItemsAt t sh.heap a its.toArray ∧ xs.length ≤ sizeLine := by
  cases t with
  | true =>
    obtain ⟨its, r, p, z⟩ := I.tuple h
    exact ⟨its, r, p, z⟩
  | false =>
    obtain ⟨its, r, p, z⟩ := I.list h
    exact ⟨its, r, p.isList, z⟩
theorem seqB_inj {X : Cx} {pins : List (Addr × Obj)} {s : L2.St} {H : Hp} {sh : Shared} {t : Bool} {a : Addr} {xs ys : List V} (I : Inv X pins s H sh) (h : SqB X.K t H a xs) (h' : SqB X.K t H a ys) : xs = ys := by
  cases t with
  | true => exact I.tuple_inj h h'
  | false => exact I.list_inj h h'
theorem same_b {K : PySem.W.Frag} {t : Bool} {H H' : Hp} {a : Addr} {xs : List V} (e : Same H H') (h : SqB K t H a xs) : SqB K t H' a xs := by
  cases t with
  | true => exact same_t e h
  | false => exact same_l e h
/-- 2 sources of one length, the items in new tuples -/
def ItZ2 (K : PySem.W.Frag) (t1 : Bool) (a1 : Addr) (t2 : Bool) (a2 : Addr) : It :=
  ⟨fun i H => ∃ (xs1 xs2 : List V) (x1 x2 : V) (n : Nat), SqB K t1 H a1 xs1 ∧ SqB K t2 H a2 xs2 ∧ xs1.length = n ∧ xs2.length = n ∧ xs1[i]? = some x1 ∧ xs2[i]? = some x2,
    fun i H v H' => ∃ (T : Addr) (x1 x2 : V), v = .ref T ∧ H T = none ∧ H' = upd H T (.tup [x1, x2]) ∧ (∀ xs, SqB K t1 H a1 xs → xs[i]? = some x1) ∧ (∀ xs, SqB K t2 H a2 xs → xs[i]? = some x2),
    fun i H => ∃ xs1 xs2 : List V, SqB K t1 H a1 xs1 ∧ SqB K t2 H a2 xs2 ∧ xs1.length = i ∧ xs2.length = i⟩
theorem turnP2 {P : Program} {w : World} {K : PySem.W.Frag} {elts : List Expr} {kk : Nat} {tpos : Pos} {t1 t2 : Bool} {a1 a2 z TI TO i1 i2 : Addr} (D : ZipSep2 z TI TO i1 i2 [i1, a1] [i2, a2]) (ne1 : a1 ≠ i1) (ne2 : a2 ≠ i2) :
    Turn P w K (.Tuple elts kk tpos) (ItZ2 K t1 a1 t2 a2) [z, TI, TO, i1, i2] z (fun i h => DZ.IsZP h z TI TO .none false ∧ IsTupOf2 h TI (.ref i1) (.ref i2) ∧ (∃ b1 b2, IsTupOf2 h TO b1 b2) ∧ DZ.IterAt t1 h i1 a1 i ∧ DZ.IterAt t2 h i2 a2 i) where
  mem := by simp
  obj := fun i h st c hc => by
    obtain ⟨hz, hTI, ⟨b1, b2, hTO⟩, h1, h2⟩ := st
    have e' : c = z ∨ c = TI ∨ c = TO ∨ c = i1 ∨ c = i2 := by simpa using hc
    rcases e' with q | q | q | q | q
    · rw [q]; exact ⟨_, hz, fun v q => nomatch q⟩
    · rw [q]; exact ⟨_, hTI, fun v q => nomatch q⟩
    · rw [q]; exact ⟨_, hTO, fun v q => nomatch q⟩
    · rw [q]; exact h1.obj
    · rw [q]; exact h2.obj
  keep := fun i h h' st k => by
    obtain ⟨hz, hTI, ⟨b1, b2, hTO⟩, h1, h2⟩ := st
    exact ⟨k z (by simp) _ hz, k TI (by simp) _ hTI, ⟨b1, b2, k TO (by simp) _ hTO⟩, h1.move fun o q => k i1 (by simp) o q, h2.move fun o q => k i2 (by simp) o q⟩
  item := by
    intro X hP hw hK hc i pins s σ H E I hf st hg
    subst hP hw hK
    obtain ⟨hz, hTI, ⟨b1, b2, hTO⟩, h1, h2⟩ := st
    obtain ⟨xs1, xs2, x1, x2, n, hq1, hq2, el1, el2, hx1, hx2⟩ := hg
    obtain ⟨its1, rv1, p1, _⟩ := seqB_at I hq1
    obtain ⟨u1, hu1, ru1⟩ := rv1.get hx1
    have sz1 : its1.toArray.size = n := by rw [List.size_toArray, ← rv1.length]; exact el1
    have D1 := DZ.drawsB (prog := X.prog) (w := X.w) (A := X.A.in1) t1 (I.ok.hd hc) i1 a1 ne1 its1.toArray
    rw [sz1] at D1
    obtain ⟨its2, rv2, p2, _⟩ := seqB_at I hq2
    obtain ⟨u2, hu2, ru2⟩ := rv2.get hx2
    have sz2 : its2.toArray.size = n := by rw [List.size_toArray, ← rv2.length]; exact el2
    have D2 := DZ.drawsB (prog := X.prog) (w := X.w) (A := X.A.in1) t2 (I.ok.hd hc) i2 a2 ne2 its2.toArray
    rw [sz2] at D2
    have hin : i < n := by
      have := (List.getElem?_eq_some_iff.mp hx1).1
      omega
    have hzl : z < s.heap.objs.size := Heap.lt_size hz
    have hTy : s.TypeIs (.ref z) "zip" := ⟨_, hz, rfl⟩
    unfold pyNext
    refine wpAny_bind (wpAny_attempt (wpAny_callSpecial?_slot (name := Str.ofString "__next__") hTy F.slot_zip_next (wpAny_call_entry F.slot_zip_next hTy F.entry_zip_next
      (DZ.zP2_item D D1 D2 hz hTI hTO ⟨h1, p1⟩ ⟨h2, p2⟩ hin fun w1 w2 h' tk e1 e2 z' TO2 s1 s2 hT hsz hk => ?_) (F.args_zip_next_1 _))))
    have ew1 : w1 = u1 := by
      have z0 : its1.toArray[i]? = some u1 := by simpa using hu1
      exact Option.some.inj (e1.symm.trans z0)
    have ew2 : w2 = u2 := by
      have z0 : its2.toArray[i]? = some u2 := by simpa using hu2
      exact Option.some.inj (e2.symm.trans z0)
    subst ew1 ew2
    refine wpAny_pure ⟨_, rfl, DZ.goP (s := { s with heap := h', toks := tk }) z' fun hz2 z2 sb => ?_⟩
    have hT2 : hz2.get? s.heap.objs.size = some { cls := .type "tuple", data := .seq #[w1, w2] } := (sb.2 _ (Nat.ne_of_gt hzl)).trans hT
    have new : ObjOk X.prog X.w (upd H s.heap.objs.size (.tup [x1, x2])) hz2 s.heap.objs.size (.tup [x1, x2]) :=
      ⟨by show 2 ≤ sizeLine; decide, [w1, w2], .cons ru1 (.cons ru2 (.nil)), ⟨_, hT2, rfl, _, rfl⟩⟩
    have I1 : Inv X pins σ (upd H s.heap.objs.size (.tup [x1, x2])) { s with heap := hz2, toks := tk } :=
      I.turnedNew (t' := tk) (ch := [z, TI, TO, i1, i2]) (fun c o hb q => (sb.2 c (fun q' => hb (by simp [q']))).trans (hk c o (fun q' => hb (by simp [q'])) (fun q' => hb (by simp [q'])) (fun q' => hb (by simp [q'])) (fun q' => hb (by simp [q'])) q)) hf (Nat.le_refl _) new
    refine ⟨.ref s.heap.objs.size, _, I1, rfl, ⟨_, x1, x2, rfl, I.hok.fresh (Nat.le_refl _), rfl, fun l hl => by rw [seqB_inj I hl hq1]; exact hx1, fun l hl => by rw [seqB_inj I hl hq2]; exact hx2⟩, ⟨z2, ?_, ⟨w1, w2, ?_⟩, ?_, ?_⟩, fun c hcm => ?_⟩
    · exact (sb.2 _ D.TIz).trans (hk _ _ D.TIz D.TITO D.TIi1 D.TIi2 hTI)
    · exact (sb.2 _ D.TOz).trans TO2
    · exact s1.1.move fun o q => (sb.2 _ (Ne.symm D.zi1)).trans q
    · exact s2.1.move fun o q => (sb.2 _ (Ne.symm D.zi2)).trans q
    · have hlt : c < s.heap.objs.size := by
        have e' : c = z ∨ c = TI ∨ c = TO ∨ c = i1 ∨ c = i2 := by simpa using hcm
        rcases e' with q | q | q | q | q
        · rw [q]; exact hzl
        · rw [q]; exact Heap.lt_size hTI
        · rw [q]; exact Heap.lt_size hTO
        · rw [q]; obtain ⟨_, e1, _⟩ := h1.obj; exact Heap.lt_size e1
        · rw [q]; obtain ⟨_, e1, _⟩ := h2.obj; exact Heap.lt_size e1
      rw [upd_ne (Nat.ne_of_lt hlt)]
      exact (hf c hcm).1
  done := by
    intro X hP hw hK hc i pins s σ H E I hf st hg
    subst hP hw hK
    obtain ⟨hz, hTI, ⟨b1, b2, hTO⟩, h1, h2⟩ := st
    obtain ⟨xs1, xs2, hq1, hq2, el1, el2⟩ := hg
    obtain ⟨its1, rv1, p1, _⟩ := seqB_at I hq1
    have sz1 : its1.toArray.size = i := by rw [List.size_toArray, ← rv1.length]; exact el1
    have D1 := DZ.drawsB (prog := X.prog) (w := X.w) (A := X.A.in1) t1 (I.ok.hd hc) i1 a1 ne1 its1.toArray
    rw [sz1] at D1
    obtain ⟨its2, rv2, p2, _⟩ := seqB_at I hq2
    have sz2 : its2.toArray.size = i := by rw [List.size_toArray, ← rv2.length]; exact el2
    have D2 := DZ.drawsB (prog := X.prog) (w := X.w) (A := X.A.in1) t2 (I.ok.hd hc) i2 a2 ne2 its2.toArray
    rw [sz2] at D2
    have hTy : s.TypeIs (.ref z) "zip" := ⟨_, hz, rfl⟩
    unfold pyNext
    refine wpAny_bind (wpAny_attempt (wpAny_callSpecial?_slot (name := Str.ofString "__next__") hTy F.slot_zip_next (wpAny_call_entry F.slot_zip_next hTy F.entry_zip_next
      (DZ.zP2_end (A := X.A.in1) (I.ok.hd hc) D D1 D2 hz hTI ⟨h1, p1⟩ ⟨h2, p2⟩ fun h' tk e hk he => ?_) (F.args_zip_next_1 _))))
    obtain ⟨o, ho, hcl⟩ := he
    refine wpAny_bind (wpAny_isInstance (T := "StopIteration") (b := true) ⟨o, ho, hcl⟩ isSubtype_stop ?_)
    refine wpAny_pure ⟨rfl, I.turnedL (t' := tk) (ch := [z, TI, TO, i1, i2]) (fun c o hb q => hk c o (fun q' => hb (by simp [q'])) (fun q' => hb (by simp [q'])) (fun q' => hb (by simp [q'])) q) hf⟩
  self := fun A i s Q E st h => DZ.iterP st.1 h
end DL
set_option Elab.async false
set_option linter.all false
set_option maxRecDepth 100000
set_option maxHeartbeats 4000000
set_option autoImplicit false
namespace DZ
open PySem PySem.Spec PySem.Calls PyProof.Rows PyProof.V L2 PySem.W
theorem ItemsAt.move {t : Bool} {h h' : Heap} {l : Addr} {items : Array Value} (x : ItemsAt t h l items) (k : ∀ o, h.get? l = some o → h'.get? l = some o) : ItemsAt t h' l items := by
  cases t with
  | true => exact let ⟨o, ho, r⟩ := (show h.IsTuple l items from x); (show h'.IsTuple l items from ⟨o, k o ho, r⟩)
  | false => exact let ⟨o, ho, r⟩ := (show h.IsList l items from x); (show h'.IsList l items from ⟨o, k o ho, r⟩)
end DZ
set_option Elab.async false
set_option linter.all false
set_option maxRecDepth 100000
set_option maxHeartbeats 4000000
set_option autoImplicit false
namespace DL
open PySem PySem.Spec PyProof.Rows L2
def zip2 (xs ys : List PyData) : List PyData := List.zipWith (fun a b => .tuple [a, b]) xs ys
def zip3 (xs ys zs : List PyData) : List PyData := List.zipWith (fun a l => match l with | .tuple l => .tuple (a :: l) | x => x) xs (zip2 ys zs)
def iZipS2 (da : DA) : DI := fun g k => da g fun rs g1 => ∃ (x1 : PyData) (t1 : Bool) (ds1 : List PyData) (x2 : PyData) (t2 : Bool) (ds2 : List PyData), rs = [R.d x1, R.d x2] ∧ seqOf g1 (.d x1) = some (t1, ds1) ∧ seqOf g1 (.d x2) = some (t2, ds2) ∧ ds2.length = ds1.length ∧ k (zip2 ds1 ds2) g1
theorem mkP2 {X : Cx} {e1 e2 : Expr} {ta : TA} {p pos : Pos} {pins : List (Addr × Obj)} {s : Shared} {σ : L2.St} {H : Hp} (R : Addr → Bool → List V → Addr → Bool → List V → Hp → Prop) (hg : Gl X "zip") (hm : X.mg "zip" = none) (ha : PA X [e1, e2] ta) (hs : starEach [e1, e2] X.env = (false, eval e1 X.env) :: starEach [e2] X.env := by rfl) (hpl : (backTo pos (starEach [e2] X.env)).any (·.1) = false := by rfl) (I : Inv X pins σ H s)
    (h : ta σ H fun vs H1 => ∃ (a1 : Addr) (t1 : Bool) (xs1 : List V) (a2 : Addr) (t2 : Bool) (xs2 : List V), vs = [V.ref a1, V.ref a2] ∧ SqB X.K t1 H1 a1 xs1 ∧ SqB X.K t2 H1 a2 xs2 ∧ R a1 t1 xs1 a2 t2 xs2 H1) :
    wpAny (model X.prog X.w) X.A (eval (.Call (.Name "zip" p) [e1, e2] [] pos) X.env) (fun v s2 => ∃ (s1 : Shared) (h' : Heap) (H1 : Hp) (a1 : Addr) (t1 : Bool) (xs1 : List V) (a2 : Addr) (t2 : Bool) (xs2 : List V), v = .ref (s1.heap.objs.size + 4) ∧ s2 = { s1 with heap := h' } ∧ Inv X pins σ H1 s1 ∧ SqB X.K t1 H1 a1 xs1 ∧ SqB X.K t2 H1 a2 xs2 ∧ R a1 t1 xs1 a2 t2 xs2 H1 ∧
      DZ.IsZP h' (s1.heap.objs.size + 4) (s1.heap.objs.size + 2) (s1.heap.objs.size + 3) .none false ∧ IsTupOf2 h' (s1.heap.objs.size + 2) (.ref s1.heap.objs.size) (.ref (s1.heap.objs.size + 1)) ∧ IsTupOf2 h' (s1.heap.objs.size + 3) .none .none ∧ DZ.IterAt t1 h' s1.heap.objs.size a1 0 ∧ DZ.IterAt t2 h' (s1.heap.objs.size + 1) a2 0 ∧ h'.objs.size = s1.heap.objs.size + 5 ∧ (∀ c o, s1.heap.get? c = some o → h'.get? c = some o)) X.xe s := by
  refine wpAny_Call_Name_kw (ld_blt I hg hm PyProof.Rows.boot_zip ?_)
  refine PyProof.Rows.callWith_type1 (thn (ha.run pos pins s σ H _ I h) fun us s2 ⟨vs, H2, I2, r1, q1⟩ => ?_) hs hpl
  obtain ⟨a1, t1, xs1, a2, t2, xs2, ex, hq1, hq2, q⟩ := q1
  subst ex
  have eus : us = [Value.ref a1, Value.ref a2] := by
    cases r1 with
    | cons r1a r1b =>
      cases r1b with
      | cons r2a r2b =>
        cases r2b
        cases r1a
        cases r2a
        rfl
  subst eus
  obtain ⟨its1, rv1, p1, _⟩ := seqB_at I2 hq1
  obtain ⟨its2, rv2, p2, _⟩ := seqB_at I2 hq2
  exact zip_begins2 (DZ.beginsB t1 a1 its1.toArray) (DZ.beginsB t2 a2 its2.toArray) p1 p2 fun h' hz hTI hTO g1 g2 hsz hk => ⟨s2, h', H2, a1, t1, xs1, a2, t2, xs2, rfl, rfl, I2, hq1, hq2, q, hz, hTI, hTO, DZ.IterAt.start g1, DZ.IterAt.start g2, hsz, hk⟩
def iZP2 (K : PySem.W.Frag) (ta : TA) : TI := fun σ H R => ta σ H fun vs H1 => ∃ (a1 : Addr) (t1 : Bool) (xs1 : List V) (a2 : Addr) (t2 : Bool) (xs2 : List V), vs = [V.ref a1, V.ref a2] ∧ SqB K t1 H1 a1 xs1 ∧ SqB K t2 H1 a2 xs2 ∧ R (ItZ2 K t1 a1 t2 a2) H1
theorem pi_zP2 {X : Cx} {e1 e2 : Expr} {ta : TA} {p pos tpos : Pos} {elts : List Expr} {kk : Nat} (hg : Gl X "zip") (hm : X.mg "zip" = none) (ha : PA X [e1, e2] ta) (hs : starEach [e1, e2] X.env = (false, eval e1 X.env) :: starEach [e2] X.env := by rfl) (hpl : (backTo pos (starEach [e2] X.env)).any (·.1) = false := by rfl) :
    PI X (.Tuple elts kk tpos) (.Call (.Name "zip" p) [e1, e2] [] pos) (iZP2 X.K ta) := by
  refine ⟨fun pins s σ H R I h => ?_⟩
  refine thn (mkP2 (fun a1 t1 xs1 a2 t2 xs2 H1 => R (ItZ2 X.K t1 a1 t2 a2) H1) hg hm ha hs hpl I h) ?_
  rintro v s2 ⟨s1, h', H1, a1, t1, xs1, a2, t2, xs2, rfl, rfl, I1, hq1, hq2, q, hz, hTI, hTO, g1, g2, hsz, hk⟩
  obtain ⟨its1, rv1, p1, _⟩ := seqB_at I1 hq1
  have la1 := DZ.ItemsAt.lt p1
  obtain ⟨its2, rv2, p2, _⟩ := seqB_at I1 hq2
  have la2 := DZ.ItemsAt.lt p2
  have D := zip_sep2 (N := s1.heap.objs.size) (fp1 := [a1]) (fp2 := [a2]) (fun b hb => by rw [List.mem_singleton.mp hb]; exact la1) (fun b hb => by rw [List.mem_singleton.mp hb]; exact la2)
  refine DZ.iterP hz ?_
  have I2 : Inv X pins σ H1 { s1 with heap := h' } := I1.kept (t' := s1.toks) hk
  refine ⟨(s1.heap.objs.size + 4), [(s1.heap.objs.size + 4), (s1.heap.objs.size + 2), (s1.heap.objs.size + 3), s1.heap.objs.size, (s1.heap.objs.size + 1)], _, _, H1, rfl, I2, turnP2 D (Nat.ne_of_lt (Nat.lt_of_lt_of_le la1 (Nat.le_add_right _ 0))) (Nat.ne_of_lt (Nat.lt_of_lt_of_le la2 (Nat.le_add_right _ 1))), ⟨hz, hTI, ⟨_, _, hTO⟩, g1, g2⟩, fun c hcm => ?_, q⟩
  have e' : c = (s1.heap.objs.size + 4) ∨ c = (s1.heap.objs.size + 2) ∨ c = (s1.heap.objs.size + 3) ∨ c = s1.heap.objs.size ∨ c = (s1.heap.objs.size + 1) := by simpa using hcm
  have hle : s1.heap.objs.size ≤ c := by
    rcases e' with q | q | q | q | q <;> rw [q] <;> first | exact Nat.le_refl _ | exact Nat.le_add_right _ _
  exact I1.fpOk hle (I1.hok.fresh hle)
def iZipP2 (da : DA) : DI := fun g k => da g fun rs g1 => ∃ (x1 : PyData) (t1 : Bool) (ds1 : List PyData) (x2 : PyData) (t2 : Bool) (ds2 : List PyData), rs = [R.d x1, R.d x2] ∧ seqOf g1 (.d x1) = some (t1, ds1) ∧ seqOf g1 (.d x2) = some (t2, ds2) ∧ ds2.length = ds1.length ∧ k (zip2 ds1 ds2) g1
theorem seqd {K : PySem.W.Frag} {B : Hp} {g : G} {v : V} {x : PyData} {t : Bool} {ds : List PyData} (h : Dq B v x) (e : seqOf g (.d x) = some (t, ds)) : ∃ a xs, v = .ref a ∧ SqB K t B a xs ∧ DqAll B xs ds := by
  cases x with
  | list es =>
    have e : (false, es) = (t, ds) := Option.some.inj e
    cases e
    obtain ⟨a, xs, e1, e2, e3⟩ := dq_list h
    exact ⟨a, xs, e1, .inl (.inl e2), e3⟩
  | tuple es =>
    have e : (true, es) = (t, ds) := Option.some.inj e
    cases e
    obtain ⟨a, xs, e1, e2, e3⟩ := dq_tup h
    exact ⟨a, xs, e1, .inl (.inl e2), e3⟩
  | _ => cases e
theorem walk_z2 {K : KR} {B0 : Hp} {a1 a2 : Addr} {t1 t2 : Bool} {xs1 xs2 : List V} {ds1 ds2 : List PyData} (h1 : SqB K.fr t1 B0 a1 xs1) (h2 : SqB K.fr t2 B0 a2 xs2) (d1 : DqAll B0 xs1 ds1) (d2 : DqAll B0 xs2 ds2) (el : ds2.length = ds1.length) : WalkOk K B0 (ItZ2 K.fr t1 a1 t2 a2) (zip2 ds1 ds2) := fun F g tm s H B al i S e => by
  have q1 : SqB K.fr t1 H a1 xs1 := same_b S.bh (same_b e h1)
  have q2 : SqB K.fr t2 H a2 xs2 := same_b S.bh (same_b e h2)
  have l1 := dqall_len d1
  have l2 := dqall_len d2
  have zl : (zip2 ds1 ds2).length = ds1.length := by unfold zip2; rw [List.length_zipWith]; omega
  refine ⟨fun d hd => ?_, fun hi => ⟨xs1, xs2, q1, q2, by omega, by omega⟩⟩
  have hlt : i < ds1.length := by rw [← zl]; exact (List.getElem?_eq_some_iff.mp hd).1
  have g1 : ds1[i]? = some ds1[i] := List.getElem?_eq_getElem hlt
  have g2 : ds2[i]? = some ds2[i] := List.getElem?_eq_getElem (by omega)
  have ed : d = .tuple [ds1[i], ds2[i]] := by
    unfold zip2 at hd
    simp only [List.getElem?_zipWith, g1, g2] at hd
    exact (Option.some.inj hd).symm
  subst ed
  obtain ⟨x1, f1, c1⟩ := dqall_get d1 g1
  obtain ⟨x2, f2, c2⟩ := dqall_get d2 g2
  refine ⟨⟨xs1, xs2, x1, x2, xs1.length, q1, q2, rfl, by omega, f1, f2⟩, fun y H' ⟨T, y1, y2, ey, hT, eH, u1, u2⟩ => ?_⟩
  subst ey eH
  have e1 := u1 xs1 q1
  rw [f1] at e1
  cases e1
  have e2 := u2 xs2 q2
  rw [f2] at e2
  cases e2
  have nB : Same B (upd B T (.tup [x1, x2])) := same_new (S.bh.free hT)
  exact ⟨upd B T (.tup [x1, x2]), S.grow hT, nB, .tup upd_same (.cons (dq_mono (e.trans nB) c1) (.cons (dq_mono (e.trans nB) c2) .nil))⟩
section
variable {ρ : Root} {X : Cx} {e1 e2 e3 : Expr} {da : DA} {p pos tpos pl posl : Pos} {kc kk : Nat} {pc kp : Pos} {elts : List Expr}
theorem pdi_zipP2 (hg : Gl X "zip") (hm : X.mg "zip" = none) (ha : PDA ρ X [e1, e2] da) (hs : starEach [e1, e2] X.env = (false, eval e1 X.env) :: starEach [e2] X.env := by rfl) (hpl : (backTo pos (starEach [e2] X.env)).any (·.1) = false := by rfl) :
    PDI ρ X (.Tuple elts kk tpos) (.Call (.Name "zip" p) [e1, e2] [] pos) (iZipP2 da) := pi_imp (pi_zP2 hg hm ha hs hpl) fun s H Q ⟨F, g, tm, k, B, al, S, hk, q⟩ => ⟨F, g, tm, _, B, al, S, hk, fun vs H1 rs g1 B1 al1 ⟨x1, t1, ds1, x2, t2, ds2, er, s1, s2, el2, hk1⟩ S1 pr => by
    subst er
    obtain ⟨v1, v2, rfl, h1, h2⟩ := pair2 pr
    obtain ⟨a1, xs1, rfl, b1, c1⟩ := seqd (K := X.K) h1 s1
    obtain ⟨a2, xs2, rfl, b2, c2⟩ := seqd (K := X.K) h2 s2
    exact ⟨a1, t1, xs1, a2, t2, xs2, rfl, same_b S1.bh b1, same_b S1.bh b2, q _ H1 _ g1 B1 al1 hk1 S1 (walk_z2 b1 b2 c1 c2 el2)⟩⟩
end
end DL
set_option Elab.async false
set_option linter.all false
set_option maxRecDepth 100000
set_option maxHeartbeats 4000000
set_option autoImplicit false
namespace DL
open PySem PySem.Spec PyProof.Rows L2
theorem un65 {k : Nat} {A : Around} (r : Room k A) : A.units + 65 < cLine := by have := r.un; omega
theorem un1 {k : Nat} {A : Around} (r : Room k A) : A.units + 1 < cLine := by have := r.un; omega
theorem seqr {K : KR} {B : Hp} {al : List Addr} {g : G} {v : V} {r : R} {t : Bool} {ds : List PyData} (h : RvOk K B al v r) (hn : noO r = true) (e : seqOf g r = some (t, ds)) : ∃ a xs, v = .ref a ∧ SqB K.fr t B a xs ∧ DqAll B xs ds := by
  cases r with
  | d x => exact seqd h e
  | o j => cases hn
  | x n => cases e
  | m ct => cases e
  | l js => cases e
  | s ns =>
    have e : (false, ns.map PyData.int) = (t, ds) := Option.some.inj e
    cases e
    obtain ⟨a, e1, e2⟩ := h
    exact ⟨a, ns.map V.int, e1, e2, dqall_mkints ns⟩
section
variable {ρ : Root} {X : Cx} {st : Stmt} {e c tg : Expr} {pos : Pos} {K : KR}
def iSqB (K : PySem.W.Frag) (te : TE) : TI := fun σ H R => te σ H fun v H1 => ∃ a, v = .ref a ∧ (((∃ xs, SqL K H1 a xs) ∧ R (Itl K a) H1) ∨ ((∃ xs, SqT K H1 a xs) ∧ R (Itt K a) H1))
theorem pi_sqB {l : Expr} {tl : TE} (hl : PE X l tl) : PI X tg l (iSqB X.K tl) := by
  refine ⟨fun pins s σ H R I h => ?_⟩
  refine thn (hl.run pins s σ H _ I h) fun v s1 ⟨x, H1, I1, r1, q1⟩ => ?_
  obtain ⟨a, e, q1⟩ := q1
  subst e
  cases r1
  have fp : ∀ b ∈ [s1.heap.objs.size], FpOk X pins H1 b := fun b hb => by
    have e : b = s1.heap.objs.size := by simpa using hb
    subst e
    exact I1.fpOk (Nat.le_refl _) (I1.hok.fresh (Nat.le_refl _))
  rcases q1 with ⟨⟨xs, hq⟩, q⟩ | ⟨⟨xs, hq⟩, q⟩
  · obtain ⟨its, rv, p, hz⟩ := I1.list hq
    refine wpAny_pyIter_list p.isList ?_
    exact ⟨s1.heap.objs.size, [s1.heap.objs.size], _, _, H1, rfl, I1.kept (t' := s1.toks) fun b o e => Heap.get?_push_of_some _ e, turn_list a _, ⟨_, Heap.get?_push_size _ rfl, rfl, rfl⟩, fp, q⟩
  · obtain ⟨its, rv, p, hz⟩ := I1.tuple hq
    refine wpAny_pyIter_tuple (show s1.heap.IsTuple a its.toArray from p) ?_
    exact ⟨s1.heap.objs.size, [s1.heap.objs.size], _, _, H1, rfl, I1.kept (t' := s1.toks) fun b o e => Heap.get?_push_of_some _ e, turn_tuple a _, ⟨_, Heap.get?_push_size _ rfl, rfl, rfl⟩, fp, q⟩
def iSq (de : DE) : DI := fun g k => de g fun r g1 => ∃ t ds, noO r = true ∧ seqOf g1 r = some (t, ds) ∧ k ds g1
theorem walk_t {B : Hp} {a : Addr} {xs : List V} {ds : List PyData} (ha : SqT K.fr B a xs) (h : DqAll B xs ds) : WalkOk K B (Itt K.fr a) ds := fun F g tm s H B1 al i S e => by
  have hq : SqT K.fr H a xs := same_t S.bh (same_t e ha)
  refine ⟨fun d hd => ?_, fun hi => ⟨xs, hq, by rw [dqall_len h]; omega⟩⟩
  obtain ⟨x, h1, h2⟩ := dqall_get h hd
  refine ⟨⟨xs, x, hq, h1⟩, fun y H' ⟨e1, e2⟩ => ?_⟩
  subst e1
  have ey := e2 xs hq
  rw [h1] at ey
  cases ey
  exact ⟨B1, S, Same.refl _, dq_mono e h2⟩
theorem walk_l {B : Hp} {a : Addr} {xs : List V} {ds : List PyData} (ha : SqL K.fr B a xs) (h : DqAll B xs ds) : WalkOk K B (Itl K.fr a) ds := fun F g tm s H B1 al i S e => by
  have hq : SqL K.fr H a xs := same_l S.bh (same_l e ha)
  refine ⟨fun d hd => ?_, fun hi => ⟨xs, hq, by rw [dqall_len h]; omega⟩⟩
  obtain ⟨x, h1, h2⟩ := dqall_get h hd
  refine ⟨⟨xs, x, hq, h1⟩, fun y H' ⟨e1, e2⟩ => ?_⟩
  subst e1
  have ey := e2 xs hq
  rw [h1] at ey
  cases ey
  exact ⟨B1, S, Same.refl _, dq_mono e h2⟩
theorem pdi_seq {l : Expr} {de : DE} (h : PD ρ X l de) : PDI ρ X tg l (iSq de) := pi_imp (pi_sqB h) fun s H Q ⟨F, g, tm, k, B, al, S, hk, q⟩ => ⟨F, g, tm, _, B, al, S, hk, fun v H1 r g1 B1 al1 ⟨t, ds, hn, hs, hk1⟩ S1 => by
    obtain ⟨a, xs, e0, h1, h2⟩ := seqr (K := ⟨X.K, ρ⟩) (S1.top rfl) hn hs
    have e0 : v = .ref a := e0
    subst e0
    refine ⟨a, rfl, ?_⟩
    cases t with
    | false => exact .inl ⟨⟨xs, same_l S1.bh h1⟩, q _ H1 ds g1 B1 al1 hk1 (S1.temps fun p hp => List.mem_cons_of_mem _ hp) (walk_l h1 h2)⟩
    | true => exact .inr ⟨⟨xs, same_t S1.bh h1⟩, q _ H1 ds g1 B1 al1 hk1 (S1.temps fun p hp => List.mem_cons_of_mem _ hp) (walk_t h1 h2)⟩⟩
end
abbrev IKs := List (Key × PyData)
theorem app_ok {α β : Type} {F : α → β → Prop} : ∀ {us us' : List α} {ks ks' : List β}, Paired F us ks → Paired F us' ks' → Paired F (us ++ us') (ks ++ ks')
  | _, _, _, _, .nil, h => h
  | _, _, _, _, .cons a b, h => .cons a (app_ok b h)
section
variable {ρ : Root} {X : Cx} {a b e o i value : Expr} {es : List Expr} {pos pos' : Pos} {K : KR}
def dDict0 : DE := fun g k => k (.o g.ce.length) { g with ce := g.ce ++ [.dK []] }
theorem pd_dict0 : PD ρ X (.Dict [] [] pos) dDict0 := pe_imp pe_dnewK fun s H Q ⟨F, g, tm, k, B, al, S, hk, q⟩ => fun p hp => q _ _ _ _ B (al ++ [p]) hk ((S.own hp (ct := .dK []) ⟨[], upd_same, .nil⟩).push ⟨p, S.own_at, rfl⟩)
theorem keys_ok {B : Hp} : ∀ {us : List (Key × V)} {kvs : IKs}, Paired (fun (p : Key × V) (q : Key × PyData) => p.1 = q.1 ∧ Dq B p.2 q.2) us kvs → us.map (·.1) = kvs.map (·.1)
  | _, _, .nil => rfl
  | _, _, .cons h t => by rw [List.map_cons, List.map_cons, h.1, keys_ok t]
end
theorem fun_of {K : PySem.W.Frag} {x qual : Str} {st : Stmt} {f : Addr} {fd : FuncData} {kws : List (Str × V)} (F : FunD K x qual (defArgs st) (defBody st) (defScope st) [] kws f fd) : Fun K x qual st f fd := by
  obtain ⟨oc, od, dV, kV, doc, pm, an, cdv, ct, osl, rfl, lk, hcd, hD, hK⟩ := F.ex
  rcases hD with ⟨_, rfl⟩ | ⟨e, _⟩
  · exact ⟨⟨oc, od, kV, doc, pm, an, cdv, ct, osl, rfl, lk, hcd⟩, F.kp⟩
  · exact absurd rfl e
end DL
set_option Elab.async false
set_option linter.all false
set_option maxRecDepth 100000
set_option maxHeartbeats 4000000
set_option autoImplicit false
namespace DL
open PySem PySem.Spec PyProof.Rows L2
section
variable {ρ : Root} {X : Cx} {e : Expr} {es : List Expr} {p pos : Pos} {da : DA}
theorem pd_len (hc : X.calm = true) (hg : Gl X "len") (hm : X.mg "len" = none) (ha : PDA ρ X (e :: es) da) (he : starEach (e :: es) X.env = (false, eval e X.env) :: starEach es X.env := by rfl) (hpl : (backTo pos (starEach es X.env)).any (·.1) = false := by rfl) :
    PD ρ X (.Call (.Name "len" p) (e :: es) [] pos) (dCall cLen da) := pd_callB call_len_seq ref_len hg hm PySem.boot_len ha (by decide) (by decide) he hpl
theorem pd_abs (hc : X.calm = true) (hg : Gl X "abs") (hm : X.mg "abs" = none) (ha : PDA ρ X (e :: es) da) (he : starEach (e :: es) X.env = (false, eval e X.env) :: starEach es X.env := by rfl) (hpl : (backTo pos (starEach es X.env)).any (·.1) = false := by rfl) :
    PD ρ X (.Call (.Name "abs" p) (e :: es) [] pos) (dCall cAbs da) := pd_callB call_abs ref_abs hg hm (by decide +kernel) ha (by decide) (by decide) he hpl
theorem pd_max2 (hc : X.calm = true) (hg : Gl X "max") (hm : X.mg "max" = none) (ha : PDA ρ X (e :: es) da) (he : starEach (e :: es) X.env = (false, eval e X.env) :: starEach es X.env := by rfl) (hpl : (backTo pos (starEach es X.env)).any (·.1) = false := by rfl) :
    PD ρ X (.Call (.Name "max" p) (e :: es) [] pos) (dCall cMax2 da) := pd_callB (call_max2 hc) ref_max2 hg hm (by decide +kernel) ha (by decide) (by decide) he hpl
theorem pd_min2 (hc : X.calm = true) (hg : Gl X "min") (hm : X.mg "min" = none) (ha : PDA ρ X (e :: es) da) (he : starEach (e :: es) X.env = (false, eval e X.env) :: starEach es X.env := by rfl) (hpl : (backTo pos (starEach es X.env)).any (·.1) = false := by rfl) :
    PD ρ X (.Call (.Name "min" p) (e :: es) [] pos) (dCall cMin2 da) := pd_callB (call_min2 hc) ref_min2 hg hm (by decide +kernel) ha (by decide) (by decide) he hpl
theorem pd_int1 (hc : X.calm = true) (hg : Gl X "int") (hm : X.mg "int" = none) (ha : PDA ρ X (e :: es) da) (he : starEach (e :: es) X.env = (false, eval e X.env) :: starEach es X.env := by rfl) (hpl : (backTo pos (starEach es X.env)).any (·.1) = false := by rfl) :
    PD ρ X (.Call (.Name "int" p) (e :: es) [] pos) (dCall cIntB da) := pd_callTy call_int1 ref_intB hg hm (by decide +kernel) ha (by decide) (by decide) he hpl
theorem pd_list1 (hc : X.calm = true) (hg : Gl X "list") (hm : X.mg "list" = none) (ha : PDA ρ X (e :: es) da) (he : starEach (e :: es) X.env = (false, eval e X.env) :: starEach es X.env := by rfl) (hpl : (backTo pos (starEach es X.env)).any (·.1) = false := by rfl) :
    PD ρ X (.Call (.Name "list" p) (e :: es) [] pos) (dCall cList da) := pd_callTy call_list_of ref_list hg hm (by decide +kernel) ha (by decide) (by decide) he hpl
theorem pd_tuple1 (hc : X.calm = true) (hg : Gl X "tuple") (hm : X.mg "tuple" = none) (ha : PDA ρ X (e :: es) da) (he : starEach (e :: es) X.env = (false, eval e X.env) :: starEach es X.env := by rfl) (hpl : (backTo pos (starEach es X.env)).any (·.1) = false := by rfl) :
    PD ρ X (.Call (.Name "tuple" p) (e :: es) [] pos) (dCall cTuple da) := pd_callTy call_tuple_of ref_tuple hg hm (by decide +kernel) ha (by decide) (by decide) he hpl
theorem pd_all1 (hc : X.calm = true) (hg : Gl X "all") (hm : X.mg "all" = none) (ha : PDA ρ X (e :: es) da) (he : starEach (e :: es) X.env = (false, eval e X.env) :: starEach es X.env := by rfl) (hpl : (backTo pos (starEach es X.env)).any (·.1) = false := by rfl) :
    PD ρ X (.Call (.Name "all" p) (e :: es) [] pos) (dCall cAll da) := pd_callB (cr_all hc) ref_all hg hm (by decide +kernel) ha (by decide) (by decide) he hpl
theorem pd_sum1 (hc : X.calm = true) (hg : Gl X "sum") (hm : X.mg "sum" = none) (ha : PDA ρ X (e :: es) da) (he : starEach (e :: es) X.env = (false, eval e X.env) :: starEach es X.env := by rfl) (hpl : (backTo pos (starEach es X.env)).any (·.1) = false := by rfl) :
    PD ρ X (.Call (.Name "sum" p) (e :: es) [] pos) (dCall cSum da) := pd_callB (cr_sum hc) ref_sum hg hm (by decide +kernel) ha (by decide) (by decide) he hpl
end
end DL
set_option Elab.async false
set_option linter.all false
set_option maxRecDepth 100000
set_option maxHeartbeats 4000000
set_option autoImplicit false
namespace DL
open PySem PySem.Spec PyProof.Rows L2
end DL
set_option Elab.async false
set_option linter.all false
set_option maxRecDepth 100000
set_option maxHeartbeats 4000000
set_option autoImplicit false
namespace DL
open PySem PySem.Spec PyProof.Rows L2
def ctTy : Option Ct → Option String
  | some (.lst _) => some "list"
  | some (.dK _) => some "dict"
  | some (.dT _) => some "dict"
  | _ => none
def tyOf (g : G) : R → Option String
  | .d .none => some "NoneType"
  | .d (.bool _) => some "bool"
  | .d (.int _) => some "int"
  | .d (.str _) => some "str"
  | .d (.list _) => some "list"
  | .d (.tuple _) => some "tuple"
  | .d (.dict _) => none
  | .s _ => some "list"
  | .o j => ctTy g.ce[j]?
  | _ => none
def isaB (a b : String) : Bool := a == b || (a == "bool" && b == "int")
theorem kit_all {K : PySem.W.Frag} {a b : String} (ha : a = "NoneType" ∨ a = "bool" ∨ a = "int" ∨ a = "str" ∨ a = "list" ∨ a = "tuple" ∨ a = "dict") (hb : b = "bool" ∨ b = "int" ∨ b = "str" ∨ b = "list" ∨ b = "tuple" ∨ b = "dict") : PySem.W.kitOne K (.type a) (.type b) = some (isaB a b) := by
  refine kit_ty ?_
  rcases ha with rfl | rfl | rfl | rfl | rfl | rfl | rfl <;> rcases hb with rfl | rfl | rfl | rfl | rfl | rfl <;> decide +kernel
theorem tyOf_names {g : G} {r : R} {t : String} (h : tyOf g r = some t) : t = "NoneType" ∨ t = "bool" ∨ t = "int" ∨ t = "str" ∨ t = "list" ∨ t = "tuple" ∨ t = "dict" := by
  cases r with
  | d x => cases x <;> simp [tyOf] at h <;> simp [← h]
  | s ns => simp [tyOf] at h; simp [← h]
  | x n => cases h
  | m ct => cases h
  | l js => cases h
  | o j =>
    have h : ctTy g.ce[j]? = some t := h
    cases hc : g.ce[j]? with
    | none => rw [hc] at h; cases h
    | some ct => rw [hc] at h; cases ct <;> cases h <;> simp
theorem sqL_ty {K : PySem.W.Frag} {H : Hp} {a : Addr} {xs : List V} (h : SqL K H a xs) : TyX K H (.ref a) (.type "list") := by
  rcases h with (h | ⟨o, h⟩) | ⟨o, _, _, hl, hc, _⟩
  · exact .base (.lst h)
  · exact .base (.frz h)
  · exact .kList hl hc
theorem Stt.ty {K : KR} {F : Fm} {g : G} {tm : List (V × R)} {s : L2.St} {H B : Hp} {al : List Addr} (S : Stt K F g tm s H B al) {v : V} {r : R} {t : String} (hv : RvOk K B al v r) (h : tyOf g r = some t) : TyX K.fr H v (.type t) := by
  cases r with
  | x n => cases h
  | m ct => cases h
  | l js => cases h
  | d x =>
    cases x with
    | none => cases h; rw [dq_none hv]; exact .base .non
    | bool b => cases h; rw [dq_bool hv]; exact .base (.bl b)
    | int b => cases h; rw [dq_int hv]; exact .base (.int b)
    | str b => cases h; rw [dq_str hv]; exact .base (.str b)
    | list ds =>
      cases h
      obtain ⟨a, xs, rfl, h1, _⟩ := dq_list hv
      exact .base (.lst (S.bh _ _ h1))
    | tuple ds =>
      cases h
      obtain ⟨a, xs, rfl, h1, _⟩ := dq_tup hv
      exact .base (.tup (S.bh _ _ h1))
    | dict _ => cases h
  | s ns =>
    cases h
    obtain ⟨a, rfl, h1⟩ := hv
    exact sqL_ty (same_l S.bh h1)
  | o j =>
    obtain ⟨a, ha, rfl⟩ := hv
    have h : ctTy g.ce[j]? = some t := h
    cases hc : g.ce[j]? with
    | none => rw [hc] at h; cases h
    | some ct =>
      rw [hc] at h
      cases ct with
      | dead => cases h
      | lst ds =>
        cases h
        obtain ⟨xs, h1, _⟩ := S.ce j a _ ha hc
        exact .base (.lst h1)
      | dK ds =>
        cases h
        obtain ⟨xs, h1, _⟩ := S.ce j a _ ha hc
        exact .base (.dK h1)
      | dT ds =>
        cases h
        obtain ⟨xs, h1, _⟩ := S.ce j a _ ha hc
        exact .base (.dT h1)
      | dN ds => cases h
      | dL ds => cases h
      | dF ds => cases h
section
variable {ρ : Root} {X : Cx} {e : Expr} {p p1 p2 p3 pos : Pos} {K : KR}
def dIsi (T : String) (de : DE) : DE := fun g k => de g fun r g1 => ∃ t, tyOf g1 r = some t ∧ k (.d (.bool (isaB t T))) g1
def dIsi2 (T U : String) (de : DE) : DE := fun g k => de g fun r g1 => ∃ t, tyOf g1 r = some t ∧ k (.d (.bool (isaB t T || isaB t U))) g1
def isTy (T : String) : Prop := T = "bool" ∨ T = "int" ∨ T = "str" ∨ T = "list" ∨ T = "tuple" ∨ T = "dict"
theorem pd_isi {x : Str} {T : String} {de : DE} (hT : isTy T) (hg : Gl X "isinstance") (hm : X.mg "isinstance" = none) (hgT : Gl X x) (hmT : X.mg x = none) (hv : bootBuiltins x = some (.type T)) (he : PD ρ X e de) (hn : x ≠ "__name__" := by decide) (hd : (x == ("__debug__" : Str)) = false := by decide)
    (hs : starEach [e, .Name x p1] X.env = (false, eval e X.env) :: starEach [.Name x p1] X.env := by rfl) :
    PD ρ X (.Call (.Name "isinstance" p) [e, .Name x p1] [] pos) (dIsi T de) :=
  pe_imp (pe_callB call_isi hg hm (by decide +kernel) (pa_cons he (pa_cons (pe_bltn (v := .ty T) hgT hmT hv rfl hn hd) pa_nil rfl) hs) (by decide) (by decide) hs rfl) fun s H Q ⟨F, g, tm, k, B, al, S, hk, q⟩ => ⟨F, g, tm, _, B, al, S, hk, fun v H1 r g1 B1 al1 ⟨t, ht, hk1⟩ S1 => by
    refine ⟨v, .ty T, .type t, .type T, isaB t T, rfl, .ty T, S1.ty (S1.top rfl) ht, kit_all (tyOf_names ht) hT, ?_⟩
    exact q _ H1 _ g1 B1 al1 hk1 ((S1.temps (tm' := tm) fun p hp => List.mem_cons_of_mem _ hp).push (.bl _))⟩
theorem pd_isi2 {x y : Str} {T U : String} {de : DE} {kt : Nat} (hT : isTy T) (hU : isTy U) (hg : Gl X "isinstance") (hm : X.mg "isinstance" = none) (hgT : Gl X x) (hmT : X.mg x = none) (hv : bootBuiltins x = some (.type T)) (hgU : Gl X y) (hmU : X.mg y = none) (hvU : bootBuiltins y = some (.type U)) (he : PD ρ X e de)
    (hn : x ≠ "__name__" := by decide) (hd : (x == ("__debug__" : Str)) = false := by decide) (hn' : y ≠ "__name__" := by decide) (hd' : (y == ("__debug__" : Str)) = false := by decide)
    (hs : starEach [e, .Tuple [.Name x p1, .Name y p2] kt p3] X.env = (false, eval e X.env) :: starEach [.Tuple [.Name x p1, .Name y p2] kt p3] X.env := by rfl) :
    PD ρ X (.Call (.Name "isinstance" p) [e, .Tuple [.Name x p1, .Name y p2] kt p3] [] pos) (dIsi2 T U de) :=
  pe_imp (pe_callB call_isiT hg hm (by decide +kernel) (pa_cons he (pa_cons (pe_tup (pa_cons (pe_bltn (v := .ty T) hgT hmT hv rfl hn hd) (pa_cons (pe_bltn (v := .ty U) hgU hmU hvU rfl hn' hd') pa_nil rfl) rfl)) pa_nil rfl) hs) (by decide) (by decide) hs rfl) fun s H Q ⟨F, g, tm, k, B, al, S, hk, q⟩ => ⟨F, g, tm, _, B, al, S, hk, fun v H1 r g1 B1 al1 ⟨t, ht, hk1⟩ S1 => by
    refine ⟨by show 2 ≤ sizeLine; decide, fun tp htp => ?_⟩
    have S2 := S1.grow (o := .tup [.ty T, .ty U]) htp
    have hty := S2.ty (S2.top rfl) ht
    have any : PySem.W.kitAny X.K (.type t) [.type T, .type U] = some (isaB t T || isaB t U) := by
      refine kitAny_cons (kit_all (tyOf_names ht) hT) (fun e1 => ?_) (fun e1 => by rw [e1]; rfl)
      refine kitAny_cons (kit_all (tyOf_names ht) hU) (fun e2 => ?_) (fun e2 => by rw [e1, e2]; rfl)
      rw [e1, e2]
      exact kitAny_nil
    refine ⟨v, tp, [.ty T, .ty U], .type t, [.type T, .type U], _, rfl, upd_same, .cons (.ty T) (.cons (.ty U) .nil), hty, any, ?_⟩
    exact q _ _ _ g1 _ al1 hk1 ((S2.temps (tm' := tm) fun p hp => List.mem_cons_of_mem _ hp).push (.bl _))⟩
end
end DL
set_option Elab.async false
set_option linter.all false
set_option maxRecDepth 100000
set_option maxHeartbeats 4000000
set_option autoImplicit false
namespace DL
open PySem PySem.Spec PyProof.Rows L2
end DL
set_option Elab.async false
set_option linter.all false
set_option maxRecDepth 100000
set_option maxHeartbeats 4000000
set_option autoImplicit false
namespace DZ
open PySem
set_option maxHeartbeats 1000000 in
theorem meets_enum1 {v : Value} {o : Obj} {H : Heap → Prop} (B : Begins v o H) :
    Meets (Builtin.«enumerate.__new__» ⟨[.type "enumerate", v], []⟩) (fun _ R s => H s.heap ∧
      R (.ok (.ret (.ref (s.heap.push o).objs.size))) { s with heap := (s.heap.push o).push { cls := .type "enumerate", data := .fields #[.none, .bool false, .ref s.heap.objs.size, rawInt 0, .none, .none] } }) :=
  .of_wp fun prog w A R s h => by
    obtain ⟨hp, g, d, tk, os⟩ := s; obtain ⟨h1, h⟩ := h
    have hsub := sub_enumerate
    have q1 : ∀ {A' : Around} {E : Value → Shared → Prop} {Q : Value → Shared → Prop}, Q (.ref hp.objs.size) ⟨hp.push o, g, d, tk, os⟩ → wpAny (model prog w) A' (pyIter v) Q E ⟨hp, g, d, tk, os⟩ :=
      fun q => B.iter prog w _ _ ⟨hp, g, d, tk, os⟩ _ h1 q
    wp_walk using q1
    refine wpAny_stack_any fun st => wpAny_pure ?_
    split
    · rename_i c _ _ _ _ _
      cases (c == Value.type "enumerate")
      · wp_walk using q1
        exact ⟨_, rfl, h⟩
      · wp_walk using q1
        exact ⟨_, rfl, h⟩
    · wp_walk using q1
      exact ⟨_, rfl, h⟩
section
variable {prog : Program} {w : World} {A : Around} {E : Value → Shared → Prop} {s : Shared}
theorem enum_begins1 {v : Value} {o : Obj} {H : Heap → Prop} {Q : Value → Shared → Prop} (B : Begins v o H) (h1 : H s.heap)
    (h : ∀ h', IsEnum h' (s.heap.objs.size + 1) s.heap.objs.size 0 .none → h'.get? s.heap.objs.size = some o → h'.objs.size = s.heap.objs.size + 2 →
      (∀ b o, s.heap.get? b = some o → h'.get? b = some o) → Q (.ref (s.heap.objs.size + 1)) { s with heap := h' }) :
    wpAny (model prog w) A (call (.type "enumerate") [v]) Q E s := by
  refine callType_new F.called_enumerate (by decide) (F.typeCall_enumerate_1 _) (F.newCall_enumerate_1 _) (fun obj => F.args_object_init_2 obj _) F.entry_enumerate_new
    (meets_enum1 B) ⟨h1, ?_⟩
  have hz : (s.heap.push o).objs.size = s.heap.objs.size + 1 := Heap.size_push ..
  show _ ∧ _
  rw [hz]
  have he : IsEnum ((s.heap.push o).push { cls := .type "enumerate", data := .fields #[.none, .bool false, .ref s.heap.objs.size, rawInt 0, .none, .none] }) (s.heap.objs.size + 1) s.heap.objs.size 0 .none := by
    have := Heap.get?_push_size (s.heap.push o) (o := { cls := .type "enumerate", data := .fields #[.none, .bool false, .ref s.heap.objs.size, rawInt 0, .none, .none] }) rfl
    rw [hz] at this; exact this
  refine ⟨⟨_, he, rfl⟩, h _ he (Heap.get?_push_of_some _ (Heap.get?_push_size _ B.free)) (by rw [Heap.size_push, hz]) fun b o x => Heap.get?_push_of_some _ (Heap.get?_push_of_some _ x)⟩
end
end DZ
namespace DL
open PySem PySem.Spec PyProof.Rows L2
def IteB (K : PySem.W.Frag) (t : Bool) (a : Addr) : It :=
  ⟨fun i H => ∃ (xs : List V) (x : V), SqB K t H a xs ∧ xs[i]? = some x, fun i H v H' => ∃ T x, v = .ref T ∧ H T = none ∧ H' = upd H T (.tup [.int (i : Nat), x]) ∧ ∀ xs, SqB K t H a xs → xs[i]? = some x, fun i H => ∃ xs : List V, SqB K t H a xs ∧ xs.length = i⟩
theorem turn_enumB {P : Program} {w : World} {K : PySem.W.Frag} {elts : List Expr} {kk : Nat} {tpos : Pos} {t : Bool} {a e it : Addr} (ne : a ≠ it) (hei : e ≠ it) (hef : e ∉ [it, a]) :
    Turn P w K (.Tuple elts kk tpos) (IteB K t a) [e, it] e (fun i h => (∃ old, IsEnum h e it ((i : Nat) : Int) old) ∧ DZ.IterAt t h it a i) where
  mem := by simp
  obj := fun i h st b hb => by
    obtain ⟨⟨old, he⟩, hi⟩ := st
    have e' : b = e ∨ b = it := by simpa using hb
    rcases e' with z | z
    · rw [z]; exact ⟨_, he, fun v q => nomatch q⟩
    · rw [z]; exact hi.obj
  keep := fun i h h' st k => let ⟨⟨old, he⟩, hi⟩ := st; ⟨⟨old, k e (by simp) _ he⟩, hi.move fun o q => k it (by simp) o q⟩
  item := by
    intro X hP hw hK hc i pins s σ H E I hf st hg
    subst hP hw hK
    obtain ⟨⟨old, he⟩, hit⟩ := st
    obtain ⟨xs, x, hq, hx⟩ := hg
    obtain ⟨its, rv, p, hz⟩ := seqB_at I hq
    obtain ⟨u, hu, ru⟩ := rv.get hx
    have hel : e < s.heap.objs.size := Heap.lt_size he
    have hil : it < s.heap.objs.size := by obtain ⟨_, q, _⟩ := hit.obj; exact Heap.lt_size q
    have D1 := DZ.drawsB (prog := X.prog) (w := X.w) (A := X.A.in1) t (I.ok.hd hc) it a ne its.toArray
    have hin : i < its.toArray.size := by rw [List.size_toArray]; exact (List.getElem?_eq_some_iff.mp hu).1
    refine wpAny_pyNext_enum_itemC D1 he ⟨hit, p⟩ hin hei hef fun w1 h' tk ew ho hst' hT hsz hk => ?_
    have ew1 : w1 = u := by
      have z0 : its.toArray[i]? = some u := by simpa using hu
      exact Option.some.inj (ew.symm.trans z0)
    subst ew1
    refine ⟨_, rfl, wpAny_letOwnedTupleGo_enum (s := { s with heap := h', toks := tk + 1 }) ho fun h'' he' sb => ?_⟩
    have hT2 : h''.get? s.heap.objs.size = some { cls := .type "tuple", data := .seq #[.int i tk, w1] } := (sb.2 _ (Nat.ne_of_gt hel)).trans hT
    have new : ObjOk X.prog X.w (upd H s.heap.objs.size (.tup [.int (i : Nat), x])) h'' s.heap.objs.size (.tup [.int (i : Nat), x]) :=
      ⟨by show 2 ≤ sizeLine; decide, [.int i tk, w1], .cons ⟨_, rfl⟩ (.cons ru .nil), ⟨_, hT2, rfl, _, rfl⟩⟩
    have I1 : Inv X pins σ (upd H s.heap.objs.size (.tup [.int (i : Nat), x])) { s with heap := h'', toks := tk + 1 } :=
      I.turnedNew (ch := [e, it]) (fun b ob hb q => (sb.2 b (fun z => hb (by simp [z]))).trans (hk b ob (fun z => hb (by simp [z])) (fun z => hb (by simp [z])) q)) hf (Nat.le_refl _) new
    refine ⟨.ref s.heap.objs.size, _, I1, rfl, ⟨_, x, rfl, I.hok.fresh (Nat.le_refl _), rfl, fun ys hy => by rw [seqB_inj I hy hq]; exact hx⟩, ⟨⟨w1, ?_⟩, hst'.1.move fun o q => (sb.2 it (Ne.symm hei)).trans q⟩, fun b hb => ?_⟩
    · have e1 : ((i + 1 : Nat) : Int) = (i : Int) + 1 := by omega
      rw [e1]; exact he'
    · have hb' : b < s.heap.objs.size := by
        have e' : b = e ∨ b = it := by simpa using hb
        rcases e' with z | z
        · rw [z]; exact hel
        · rw [z]; exact hil
      rw [upd_ne (Nat.ne_of_lt hb')]
      exact (hf b hb).1
  done := by
    intro X hP hw hK hc i pins s σ H E I hf st hg
    subst hP hw hK
    obtain ⟨⟨old, he⟩, hit⟩ := st
    obtain ⟨xs, hq, hx⟩ := hg
    obtain ⟨its, rv, p, hz⟩ := seqB_at I hq
    obtain ⟨f0, f1, f2, f3, f4, f5⟩ := hf it (by simp)
    have D1 := DZ.drawsB (prog := X.prog) (w := X.w) (A := X.A.in1) t (I.ok.hd hc) it a ne its.toArray
    have hl : its.toArray.size = i := by rw [List.size_toArray, ← rv.length]; exact hx
    rw [hl] at D1
    exact wpAny_pyNext_enum_endD D1 he ⟨hit, p⟩ fun h' eb => ⟨rfl, I.turned (t' := s.toks) (fun b o hb q => eb b o hb q) f0 f1 f3 f4 f5⟩
  self := fun A i s Q E st h => let ⟨⟨_, he⟩, _⟩ := st; wpAny_pyIter_enum he h
def iEnB (K : PySem.W.Frag) (ta : TA) : TI := fun σ H R => ta σ H fun vs H1 => ∃ (a : Addr) (t : Bool) (xs : List V), vs = [.ref a] ∧ SqB K t H1 a xs ∧ R (IteB K t a) H1
theorem pi_enumB {X : Cx} {e : Expr} {ta : TA} {p pos tpos : Pos} {elts : List Expr} {kk : Nat} (hg : Gl X "enumerate") (hm : X.mg "enumerate" = none) (ha : PA X [e] ta) (hs : starEach [e] X.env = [(false, eval e X.env)] := by rfl) :
    PI X (.Tuple elts kk tpos) (.Call (.Name "enumerate" p) [e] [] pos) (iEnB X.K ta) := by
  refine ⟨fun pins s σ H R I h => ?_⟩
  refine Call_ (ld_blt I hg hm boot_enumerate (PyProof.Rows.callWith_type1 (thn (ha.run pos pins s σ H _ I h) fun us s1 ⟨vs, H1, I1, r1, q1⟩ => ?_) hs rfl))
  obtain ⟨a, t, xs, ex, hq, q⟩ := q1
  subst ex
  cases r1 with
  | cons r rr =>
    cases rr
    cases r
    obtain ⟨its, rv, p', hz⟩ := seqB_at I1 hq
    have hal : a < s1.heap.objs.size := p'.lt
    refine DZ.enum_begins1 (DZ.beginsB t a its.toArray) p' fun h' he hit hsz hk => wpAny_pyIter_enum he ?_
    have I2 : Inv X pins σ H1 { s1 with heap := h' } := I1.kept (t' := s1.toks) hk
    refine ⟨s1.heap.objs.size + 1, [s1.heap.objs.size + 1, s1.heap.objs.size], _, _, H1, rfl, I2, turn_enumB (a := a) (e := s1.heap.objs.size + 1) (it := s1.heap.objs.size) (Nat.ne_of_lt hal) (Nat.succ_ne_self _) (fun z => by
      rcases List.mem_cons.mp z with z | z
      · exact Nat.succ_ne_self _ z
      · have z := List.mem_singleton.mp z
        rw [← z] at hal
        exact absurd hal (Nat.not_lt.mpr (Nat.le_succ _))), ⟨⟨.none, he⟩, DZ.IterAt.start hit⟩, fun b hb => ?_, q⟩
    have e' : b = s1.heap.objs.size + 1 ∨ b = s1.heap.objs.size := by simpa using hb
    have hle : s1.heap.objs.size ≤ b := by
      rcases e' with z | z
      · rw [z]; exact Nat.le_add_right _ _
      · rw [z]; exact Nat.le_refl _
    exact I1.fpOk hle (I1.hok.fresh hle)
/-- the pairs (0, x), (1, y), .. -/
def enumD (ds : List PyData) : List PyData := ds.mapIdx fun i x => .tuple [.int (i : Nat), x]
theorem walk_enumB {K : KR} {B0 : Hp} {a : Addr} {t : Bool} {xs : List V} {ds : List PyData} (h1 : SqB K.fr t B0 a xs) (h2 : DqAll B0 xs ds) : WalkOk K B0 (IteB K.fr t a) (enumD ds) := fun F g tm s H B al i S e => by
  have hq : SqB K.fr t H a xs := same_b S.bh (same_b e h1)
  have hlen : (enumD ds).length = ds.length := by unfold enumD; rw [List.length_mapIdx]
  refine ⟨fun d hd => ?_, fun hi => ⟨xs, hq, by rw [dqall_len h2, hi, hlen]⟩⟩
  have hi : i < ds.length := by
    have z := (List.getElem?_eq_some_iff.mp hd).1
    rw [hlen] at z
    exact z
  obtain ⟨x, e1, e2⟩ := dqall_get h2 (List.getElem?_eq_getElem hi)
  have ed : d = .tuple [.int (i : Nat), ds[i]] := by
    unfold enumD at hd
    rw [List.getElem?_mapIdx, List.getElem?_eq_getElem hi] at hd
    exact (Option.some.inj hd).symm
  subst ed
  refine ⟨⟨xs, x, hq, e1⟩, fun y H' ⟨T, x', ey, hT, eH, hx'⟩ => ?_⟩
  subst ey eH
  have ex := hx' xs hq
  rw [e1] at ex
  cases ex
  have hBT : B T = none := S.bh.free hT
  exact ⟨upd B T (.tup [.int (i : Nat), x]), S.grow hT, same_new hBT, Dq.tup upd_same (.cons (.int _) (.cons (dq_mono (e.trans (same_new hBT)) e2) .nil))⟩
def iEnD (da : DA) : DI := fun g k => da g fun rs g1 => ∃ r t ds, rs = [r] ∧ noO r = true ∧ seqOf g1 r = some (t, ds) ∧ k (enumD ds) g1
theorem pdi_enum {ρ : Root} {X : Cx} {e : Expr} {da : DA} {p pos tpos : Pos} {elts : List Expr} {kk : Nat} (hg : Gl X "enumerate") (hm : X.mg "enumerate" = none) (ha : PDA ρ X [e] da) (hs : starEach [e] X.env = [(false, eval e X.env)] := by rfl) :
    PDI ρ X (.Tuple elts kk tpos) (.Call (.Name "enumerate" p) [e] [] pos) (iEnD da) := pi_imp (pi_enumB hg hm ha hs) fun s H Q ⟨F, g, tm, k, B, al, S, hk, q⟩ => ⟨F, g, tm, _, B, al, S, hk, fun vs H1 rs g1 B1 al1 ⟨r, t, ds, er, hn, hs, hk1⟩ S1 pr => by
    subst er
    obtain ⟨v, rfl, hv⟩ := pair1 pr
    obtain ⟨a, xs, rfl, h1, h2⟩ := seqr (K := ⟨X.K, ρ⟩) hv hn hs
    exact ⟨a, t, xs, rfl, same_b S1.bh h1, q _ H1 _ g1 B1 al1 hk1 S1 (walk_enumB h1 h2)⟩⟩
end DL
set_option Elab.async false
set_option linter.all false
set_option maxRecDepth 100000
set_option maxHeartbeats 4000000
set_option autoImplicit false
namespace DL
open PySem PySem.Spec PyProof.Rows L2
inductive Out (α : Type) where
  | ok (a : α) (g : G)
  | ex (n : Xn) (g : G)
  | no
inductive Fl where
  | nx
  | rt (r : R)
  | bk
  | ct
abbrev FE := G → Out R
abbrev FT := G → Out Bool
abbrev FAr := G → Out (List R)
abbrev FI := G → Out (List PyData)
abbrev FO := G → Out (Option Int)
abbrev FS := G → Out Fl
abbrev FG := R → G → Out Unit
abbrev FGs := List R → G → Out Unit
abbrev DX := Xn → G → Prop
def Out.go {α : Type} (dx : DX) (k : α → G → Prop) : Out α → Prop
  | .ok a g => k a g
  | .ex n g => dx n g
  | .no => False
def Out.bind {α β : Type} (o : Out α) (f : α → G → Out β) : Out β := match o with
  | .ok a g => f a g
  | .ex n g => .ex n g
  | .no => .no
@[simp] theorem bind_ok {α β : Type} (a : α) (g : G) (f : α → G → Out β) : (Out.ok a g).bind f = f a g := id rfl
@[simp] theorem bind_ex {α β : Type} (n : Xn) (g : G) (f : α → G → Out β) : (Out.ex n g : Out α).bind f = .ex n g := id rfl
@[simp] theorem bind_no {α β : Type} (f : α → G → Out β) : (Out.no : Out α).bind f = .no := id rfl
theorem go_bind {α β : Type} {dx : DX} {k : β → G → Prop} {o : Out α} {f : α → G → Out β} : (o.bind f).go dx k ↔ o.go dx fun a g => (f a g).go dx k := by
  cases o <;> exact Iff.rfl
theorem go_mono {α : Type} {dx : DX} {k k' : α → G → Prop} {o : Out α} (h : o.go dx k) (i : ∀ a g, k a g → k' a g) : o.go dx k' := by
  cases o with
  | ok a g => exact i a g h
  | ex n g => exact h
  | no => exact h
def ofO {α : Type} (o : Option α) (g : G) : Out α := match o with
  | some a => .ok a g
  | none => .no
@[simp] theorem ofO_some {α : Type} (a : α) (g : G) : ofO (some a) g = .ok a g := id rfl
theorem go_ofO {α : Type} {dx : DX} {k : α → G → Prop} {o : Option α} {g : G} (h : (ofO o g).go dx k) : ∃ a, o = some a ∧ k a g := by
  cases o with
  | none => exact h.elim
  | some a => exact ⟨a, rfl, h⟩
/-- what a function says, told over data -/
def rd {α : Type} (dx : DX) (f : G → Out α) : G → (α → G → Prop) → Prop := fun g k => (f g).go dx k
def flK (E : DEnds) : Fl → G → Prop
  | .nx => E.nx
  | .rt r => E.rt r
  | .bk => E.bk
  | .ct => E.ct
def rS (dx : DX) (f : FS) : DS := fun E g => (f g).go dx (flK E)
def rG (dx : DX) (f : FG) : DG := fun r g k => (f r g).go dx fun _ => k
def rGs (dx : DX) (f : FGs) : DGs := fun r g k => (f r g).go dx fun _ => k
section
variable {ρ : Root} {X : Cx} {e : Expr} {es : List Expr} {pos : Pos}
theorem pd_mono {d d' : DE} (h : PD ρ X e d) (i : ∀ g k, d' g k → d g k) : PD ρ X e d' := pe_imp h fun s H Q ⟨F, g, tm, k, B, al, S, hk, q⟩ => ⟨F, g, tm, k, B, al, S, i g k hk, q⟩
theorem pdt_mono {d d' : DT} (h : PDT ρ X e d) (i : ∀ g k, d' g k → d g k) : PDT ρ X e d' := pt_imp h fun s H Q ⟨F, g, tm, k, B, al, S, hk, q⟩ => ⟨F, g, tm, k, B, al, S, i g k hk, q⟩
theorem pdw_mono {d d' : DT} (h : PDW ρ X e d) (i : ∀ g k, d' g k → d g k) : PDW ρ X e d' := pw_imp h fun s H Q ⟨F, g, tm, k, B, al, S, hk, q⟩ => ⟨F, g, tm, k, B, al, S, i g k hk, q⟩
theorem pdts_mono {d d' : DT} (h : PDTs ρ X es d) (i : ∀ g k, d' g k → d g k) : PDTs ρ X es d' := pts_imp h fun s H Q ⟨F, g, tm, k, B, al, S, hk, q⟩ => ⟨F, g, tm, k, B, al, S, i g k hk, q⟩
theorem pda_mono {d d' : DA} (h : PDA ρ X es d) (i : ∀ g k, d' g k → d g k) : PDA ρ X es d' := pa_imp h fun s H Q ⟨F, g, tm, k, B, al, S, hk, q⟩ => ⟨F, g, tm, k, B, al, S, i g k hk, q⟩
theorem pdo_mono {o : Option Expr} {d d' : DO} (h : PDO ρ X o d) (i : ∀ g k, d' g k → d g k) : PDO ρ X o d' := po_imp h fun s H Q ⟨F, g, tm, k, B, al, S, hk, q⟩ => ⟨F, g, tm, k, B, al, S, i g k hk, q⟩
theorem pdi_mono {tg : Expr} {d d' : DI} (h : PDI ρ X tg e d) (i : ∀ g k, d' g k → d g k) : PDI ρ X tg e d' := pi_imp h fun s H Q ⟨F, g, tm, k, B, al, S, hk, q⟩ => ⟨F, g, tm, k, B, al, S, i g k hk, q⟩
theorem pds_mono {st : Stmt} {d d' : DS} (h : PDS ρ X st d) (i : ∀ E g, d' E g → d E g) : PDS ρ X st d' := ps_imp h fun D s H ⟨F, g, tm, E, B, al, S, hk, q⟩ => ⟨F, g, tm, E, B, al, S, i E g hk, q⟩
theorem pdss_mono {st : List Stmt} {d d' : DS} (h : PDSs ρ X st d) (i : ∀ E g, d' E g → d E g) : PDSs ρ X st d' := pss_imp h fun D s H ⟨F, g, tm, E, B, al, S, hk, q⟩ => ⟨F, g, tm, E, B, al, S, i E g hk, q⟩
theorem pdg_mono {ws : List Nat} {d d' : DG} (h : PDG ρ X ws e d) (i : ∀ r g k, d' r g k → d r g k) : PDG ρ X ws e d' := pg_imp h fun v s H Q ⟨F, g, tm, r, k, B, al, S, hv, hk, q⟩ => ⟨F, g, tm, r, k, B, al, S, hv, i r g k hk, q⟩
theorem pdgs_mono {ws : List Nat} {d d' : DGs} (h : PDGs ρ X ws es d) (i : ∀ r g k, d' r g k → d r g k) : PDGs ρ X ws es d' := pgs_imp h fun v s H Q ⟨F, g, tm, r, k, B, al, S, hv, hk, q⟩ => ⟨F, g, tm, r, k, B, al, S, hv, i r g k hk, q⟩
end
def asInts : List PyData → Option (List Int)
  | [] => some []
  | .int i :: r => (asInts r).map (i :: ·)
  | _ => none
@[simp] theorem asInts_map (ns : List Int) : asInts (ns.map .int) = some ns := by
  induction ns with
  | nil => rfl
  | cons n ns ih => simp only [List.map_cons, asInts, ih, Option.map_some]
theorem asInts_eq : ∀ {ds : List PyData} {ns : List Int}, asInts ds = some ns → ds = ns.map .int
  | [], ns, h => by cases h; rfl
  | .int i :: r, ns, h => by
    simp only [asInts] at h
    cases hr : asInts r with
    | none => rw [hr] at h; cases h
    | some ms => rw [hr] at h; cases h; rw [asInts_eq hr]; rfl
  | .none :: _, _, h => by cases h
  | .bool _ :: _, _, h => by cases h
  | .str _ :: _, _, h => by cases h
  | .list _ :: _, _, h => by cases h
  | .tuple _ :: _, _, h => by cases h
  | .dict _ :: _, _, h => by cases h
def asBools : List PyData → Option (List Bool)
  | [] => some []
  | .bool i :: r => (asBools r).map (i :: ·)
  | _ => none
@[simp] theorem asBools_map (ns : List Bool) : asBools (ns.map .bool) = some ns := by
  induction ns with
  | nil => rfl
  | cons n ns ih => simp only [List.map_cons, asBools, ih, Option.map_some]
theorem asBools_eq : ∀ {ds : List PyData} {ns : List Bool}, asBools ds = some ns → ds = ns.map .bool
  | [], ns, h => by cases h; rfl
  | .bool i :: r, ns, h => by
    simp only [asBools] at h
    cases hr : asBools r with
    | none => rw [hr] at h; cases h
    | some ms => rw [hr] at h; cases h; rw [asBools_eq hr]; rfl
  | .none :: _, _, h => by cases h
  | .int _ :: _, _, h => by cases h
  | .str _ :: _, _, h => by cases h
  | .list _ :: _, _, h => by cases h
  | .tuple _ :: _, _, h => by cases h
  | .dict _ :: _, _, h => by cases h
def asData : List R → Option (List PyData)
  | [] => some []
  | .d x :: r => (asData r).map (x :: ·)
  | _ => none
@[simp] theorem asData_map (ns : List PyData) : asData (ns.map .d) = some ns := by
  induction ns with
  | nil => rfl
  | cons n ns ih => simp only [List.map_cons, asData, ih, Option.map_some]
theorem asData_eq : ∀ {ds : List R} {ns : List PyData}, asData ds = some ns → ds = ns.map .d
  | [], ns, h => by cases h; rfl
  | .d i :: r, ns, h => by
    simp only [asData] at h
    cases hr : asData r with
    | none => rw [hr] at h; cases h
    | some ms => rw [hr] at h; cases h; rw [asData_eq hr]; rfl
  | .o _ :: _, _, h => by cases h
  | .s _ :: _, _, h => by cases h
  | .x _ :: _, _, h => by cases h
  | .m _ :: _, _, h => by cases h
  | .l _ :: _, _, h => by cases h
abbrev Op2 := G → R → R → Option R
def onI (f : Int → Int → Option PyData) : Op2 := fun _ r1 r2 => match r1, r2 with
  | .d (.int i), .d (.int j) => (f i j).map .d
  | _, _ => none
theorem onI_eq {f : Int → Int → Option PyData} {g : G} {r1 r2 r : R} (h : onI f g r1 r2 = some r) : ∃ i j x, r1 = .d (.int i) ∧ r2 = .d (.int j) ∧ f i j = some x ∧ r = .d x := by
  unfold onI at h
  split at h
  · rename_i i j
    cases hf : f i j with
    | none => rw [hf] at h; cases h
    | some x => rw [hf] at h; cases h; exact ⟨i, j, x, rfl, rfl, hf, rfl⟩
  · cases h
abbrev opSub : Op2 := onI fun i j => some (.int (i - j))
abbrev opLt : Op2 := onI fun i j => some (.bool (decide (i < j)))
abbrev opLe : Op2 := onI fun i j => some (.bool (decide (i ≤ j)))
abbrev opGt : Op2 := onI fun i j => some (.bool (decide (j < i)))
abbrev opGe : Op2 := onI fun i j => some (.bool (decide (j ≤ i)))
abbrev opMod : Op2 := onI fun i j => if 0 < j then some (.int (i % j)) else none
abbrev opDiv : Op2 := onI fun i j => if 0 < j ∧ j.natAbs.log2 < 9000 then some (.int (i / j)) else none
abbrev opPow : Op2 := onI fun i j => if 0 ≤ j ∧ j ≤ 1000000 ∧ i.natAbs < 2 ^ 64 then some (.int (i ^ j.toNat)) else none
def mulOk (i j : Int) : Bool := decide ((-(2 ^ 64) < i ∧ i < 2 ^ 64) ∨ (-(2 ^ 64) < j ∧ j < 2 ^ 64))
theorem mulOk_r {i j : Int} (h1 : -(2 ^ 64) < j) (h2 : j < 2 ^ 64) : mulOk i j = true := decide_eq_true (.inr ⟨h1, h2⟩)
theorem mulOk_l {i j : Int} (h1 : -(2 ^ 64) < i) (h2 : i < 2 ^ 64) : mulOk i j = true := decide_eq_true (.inl ⟨h1, h2⟩)
def opMul : Op2 := fun g r1 r2 => match r1, r2 with
  | .d (.int i), .d (.int j) => if mulOk i j then some (.d (.int (i * j))) else none
  | _, _ => none
/-- two lists that are made here -/
def cat2 (g : G) (r1 r2 : R) : Option (List PyData) := match seqOf g r1, seqOf g r2 with
  | some (false, xs), some (false, ys) => if isMade r1 && isMade r2 && decide (xs.length + ys.length ≤ 100000) then some (xs ++ ys) else none
  | _, _ => none
def opAdd : Op2 := fun g r1 r2 => match r1, r2 with
  | .d (.int i), .d (.int j) => some (.d (.int (i + j)))
  | .d (.tuple xs), .d (.tuple ys) => if xs.length + ys.length ≤ 100000 then some (.d (.tuple (xs ++ ys))) else none
  | r1, r2 => (cat2 g r1 r2).map fun l => .d (.list l)
def opEq : Op2 := fun g r1 r2 => match datOf g r1, datOf g r2 with
  | some x, some y => if SeqAt.shaped x && SeqAt.shaped y then some (.d (.bool (PyData.eqv x y))) else none
  | _, _ => none
def opNe : Op2 := fun g r1 r2 => match datOf g r1, datOf g r2 with
  | some x, some y => if SeqAt.shaped x && SeqAt.shaped y then some (.d (.bool (!PyData.eqv x y))) else none
  | _, _ => none
def isNR : R → Bool
  | .d x => isN x
  | _ => false
def opIsN : Op2 := fun _ r1 r2 => match r2 with
  | .d .none => some (.d (.bool (isNR r1)))
  | _ => none
def opNotN : Op2 := fun _ r1 r2 => match r2 with
  | .d .none => some (.d (.bool (!isNR r1)))
  | _ => none
def valP {κ : Type} [DecidableEq κ] : List (κ × PyData) → κ → Option PyData
  | [], _ => none
  | (q, x) :: r, k => if q = k then some x else valP r k
def putP {κ : Type} [DecidableEq κ] (kvs : List (κ × PyData)) (k : κ) (x : PyData) : List (κ × PyData) := if kvs.any (fun p => decide (p.1 = k)) = true then kvs.map (fun p => if p.1 = k then (p.1, x) else p) else kvs ++ [(k, x)]
def keyOf : PyData → Option Key
  | .int i => some (.inl i)
  | .str s => some (.inr s)
  | _ => none
def keysOf : List PyData → Option (List Key)
  | [] => some []
  | d :: ds => match keyOf d, keysOf ds with
    | some k, some ks => some (k :: ks)
    | _, _ => none
def tkeyOf : PyData → Option (List Key)
  | .tuple ds => keysOf ds
  | _ => none
def dictC : Ct → Bool
  | .dK _ => true
  | .dT _ => true
  | _ => false
def dictAt (g : G) : R → Option Ct
  | .o j => match g.ce[j]? with
    | some ct => if dictC ct then some ct else none
    | none => none
  | .m ct => if dictC ct then some ct else none
  | _ => none
/-- what stands at a key; none: no key of this dict's kind -/
def dGet (ct : Ct) (key : PyData) : Option (Option PyData) := match ct with
  | .dK kvs => (keyOf key).map (valP kvs)
  | .dT kvs => (tkeyOf key).map (valP kvs)
  | _ => none
def dPut (ct : Ct) (key x : PyData) : Option Ct := match ct with
  | .dK kvs => if kvs.length < 100000 then (keyOf key).map fun k => .dK (putP kvs k x) else none
  | .dT kvs => if kvs.length < 100000 then (tkeyOf key).map fun k => .dT (putP kvs k x) else none
  | _ => none
def opIx : Op2 := fun g r1 r2 => match r2 with
  | .d key => match dictAt g r1 with
    | some ct => match dGet ct key with
      | some (some x) => some (.d x)
      | _ => none
    | none => match key with
      | .int i => match seqOf g r1 with
        | some (_, ds) => (atI ds i).map .d
        | none => none
      | _ => none
  | _ => none
/-- x in xs -/
def inB (g : G) (r1 r2 : R) : Option Bool := match dictAt g r2 with
  | some ct => match r1 with
    | .d key => (dGet ct key).map (·.isSome)
    | _ => none
  | none => match datOf g r2 with
    | some (.list ds) => match datOf g r1 with
      | some d => if SeqAt.shaped d && SeqAt.shaped (.list ds) then some (ds.any fun z => PyData.eqv z d) else none
      | none => none
    | _ => match r1 with
      | .d (.int i) => match seqOf g r2 with
        | some (_, ds) => (asInts ds).map fun ns => decide (i ∈ ns)
        | none => none
      | _ => none
def opIn : Op2 := fun g r1 r2 => (inB g r1 r2).map fun b => .d (.bool b)
def opNotIn : Op2 := fun g r1 r2 => (inB g r1 r2).map fun b => .d (.bool (!b))
def fVar (i : Nat) : FE := fun g => match g.sl[i]? with
  | some (some r) => .ok r g
  | _ => .no
def fC (x : PyData) : FE := fun g => .ok (.d x) g
def fOp (op : Op2) (f1 f2 : FE) : FE := fun g => (f1 g).bind fun r1 g1 => (f2 g1).bind fun r2 g2 => ofO (op g2 r1 r2) g2
def fNeg (f : FE) : FE := fun g => (f g).bind fun r g1 => match r with
  | .d (.int i) => .ok (.d (.int (-i))) g1
  | _ => .no
def fAnd (f1 f2 : FE) : FE := fun g => (f1 g).bind fun r g1 => match r with
  | .d (.bool c) => if c = true then f2 g1 else .ok (.d (.bool false)) g1
  | _ => .no
def fOr (f1 f2 : FE) : FE := fun g => (f1 g).bind fun r g1 => match r with
  | .d (.bool c) => if c = true then .ok (.d (.bool true)) g1 else f2 g1
  | _ => .no
def fNot (f : FE) : FE := fun g => (f g).bind fun r g1 => match r with
  | .d (.bool c) => .ok (.d (.bool (!c))) g1
  | _ => .no
def fTst (f : FE) : FT := fun g => (f g).bind fun r g1 => match r with
  | .d (.bool c) => .ok c g1
  | _ => .no
def fAndT (t u : FT) : FT := fun g => (t g).bind fun c g1 => if c = true then u g1 else .ok false g1
def fOrT (t u : FT) : FT := fun g => (t g).bind fun c g1 => if c = true then .ok true g1 else u g1
def fNotT (t : FT) : FT := fun g => (t g).bind fun c g1 => .ok (!c) g1
def fYes : FT := fun g => .ok true g
def fIf (t : FT) (a b : FE) : FE := fun g => (t g).bind fun c g1 => if c = true then a g1 else b g1
def fChain (o1 o2 : Op2) (fa fb fc : FE) : FE := fun g => (fa g).bind fun r1 g1 => (fb g1).bind fun r2 g2 => match o1 g2 r1 r2 with
  | some (.d (.bool c)) => if c = true then (fc g2).bind fun r4 g4 => ofO (o2 g4 r2 r4) g4 else .ok (.d (.bool false)) g2
  | _ => .no
def fNil : FAr := fun g => .ok [] g
def fCons (f : FE) (fs : FAr) : FAr := fun g => (f g).bind fun r g1 => (fs g1).bind fun rs g2 => .ok (r :: rs) g2
def fTup (fs : FAr) : FE := fun g => (fs g).bind fun rs g1 => match asData rs with
  | some ds => if ds.length ≤ 100000 then .ok (.d (.tuple ds)) g1 else .no
  | none => .no
def fLst (fs : FAr) : FE := fun g => (fs g).bind fun rs g1 => match asData rs with
  | some ds => if ds.length ≤ 100000 then .ok (.d (.list ds)) g1 else .no
  | none => .no
def newO (ct : Ct) (g : G) : Out R := .ok (.o g.ce.length) { g with ce := g.ce ++ [ct] }
def fLstO (fs : FAr) : FE := fun g => (fs g).bind fun rs g1 => match asData rs with
  | some ds => if ds.length ≤ 100000 then newO (.lst ds) g1 else .no
  | none => .no
def fDict0 : FE := fun g => newO (.dK []) g
def fDict0T : FE := fun g => newO (.dT []) g
def fNoP : FO := fun g => .ok none g
def fPart (f : FE) : FO := fun g => (f g).bind fun r g1 => match r with
  | .d (.int i) => .ok (some i) g1
  | _ => .no
def fSl (f : FE) (fl fh : FO) : FE := fun g => (f g).bind fun r g1 => (fl g1).bind fun lo g2 => (fh g2).bind fun hi g3 => match seqOf g3 r with
  | some (t, ds) => .ok (.d (if t then .tuple (cut ds lo hi) else .list (cut ds lo hi))) g3
  | none => .no
def fRev (f : FE) : FE := fun g => (f g).bind fun r g1 => match seqOf g1 r with
  | some (t, ds) => .ok (.d (if t then .tuple ds.reverse else .list ds.reverse)) g1
  | none => .no
/-- built-ins by values -/
abbrev Cl := G → List R → Option R
def fCl (c : Cl) (fs : FAr) : FE := fun g => (fs g).bind fun rs g1 => ofO (c g1 rs) g1
def clLen : Cl := fun g rs => match rs with
  | [r] => match seqOf g r with
    | some (_, ds) => some (.d (.int ds.length))
    | none => none
  | _ => none
def clAbs : Cl := fun _ rs => match rs with
  | [.d (.int i)] => some (.d (.int (if i < 0 then -i else i)))
  | _ => none
def clMax : Cl := fun _ rs => match rs with
  | [.d (.int i), .d (.int j)] => some (.d (.int (if j > i then j else i)))
  | _ => none
def clMin : Cl := fun _ rs => match rs with
  | [.d (.int i), .d (.int j)] => some (.d (.int (if j < i then j else i)))
  | _ => none
def clInt : Cl := fun _ rs => match rs with
  | [.d (.bool b)] => some (.d (.int (if b then 1 else 0)))
  | _ => none
def clList : Cl := fun g rs => match rs with
  | [r] => match seqOf g r with
    | some (_, ds) => some (.d (.list ds))
    | none => none
  | _ => none
def clTuple : Cl := fun g rs => match rs with
  | [r] => match seqOf g r with
    | some (_, ds) => some (.d (.tuple ds))
    | none => none
  | _ => none
def clAll : Cl := fun g rs => match rs with
  | [r] => match seqOf g r with
    | some (false, ds) => (asBools ds).map fun bs => .d (.bool (bs.all id))
    | _ => none
  | _ => none
def clAny : Cl := fun g rs => match rs with
  | [r] => match seqOf g r with
    | some (false, ds) => (asBools ds).map fun bs => .d (.bool (bs.any id))
    | _ => none
  | _ => none
def clSum : Cl := fun g rs => match rs with
  | [r] => match seqOf g r with
    | some (false, ds) => (asInts ds).map fun bs => .d (.int bs.sum)
    | _ => none
  | _ => none
def asKeys : IKs → Option (List Int)
  | [] => some []
  | (Sum.inl i, _) :: r => (asKeys r).map (i :: ·)
  | _ => none
theorem asKeys_eq : ∀ {kvs : IKs} {ns : List Int}, asKeys kvs = some ns → kvs.map (·.1) = ns.map Sum.inl
  | [], ns, h => by cases h; rfl
  | (.inl i, x) :: r, ns, h => by
    simp only [asKeys] at h
    cases hr : asKeys r with
    | none => rw [hr] at h; cases h
    | some ms => rw [hr] at h; cases h; rw [List.map_cons, asKeys_eq hr]; rfl
  | (.inr _, _) :: _, _, h => by cases h
def clSorted : Cl := fun g rs => match rs with
  | [r] => match dictAt g r with
    | some (.dK kvs) => match asKeys kvs with
      | some ks => if ks.length < 64 then some (.d (.list ((srt ks).map .int))) else none
      | none => none
    | some _ => none
    | none => match seqOf g r with
      | some (_, ds) => (asInts ds).map fun ns => .d (.list ((srt ns).map .int))
      | none => none
  | _ => none
def fListO (fs : FAr) : FE := fun g => (fs g).bind fun rs g1 => match rs with
  | [r] => match seqOf g1 r with
    | some (_, ds) => newO (.lst ds) g1
    | none => .no
  | _ => .no
def fIsi (T : String) (f : FE) : FE := fun g => (f g).bind fun r g1 => match tyOf g1 r with
  | some t => .ok (.d (.bool (isaB t T))) g1
  | none => .no
def fIsi2 (T U : String) (f : FE) : FE := fun g => (f g).bind fun r g1 => match tyOf g1 r with
  | some t => .ok (.d (.bool (isaB t T || isaB t U))) g1
  | none => .no
/-- methods of lists -/
abbrev Mt := G → R → List R → Option (R × G)
def ofM (o : Option (R × G)) : Out R := match o with
  | some (r, g) => .ok r g
  | none => .no
@[simp] theorem ofM_some (r : R) (g : G) : ofM (some (r, g)) = .ok r g := id rfl
def isLst (g : G) (r : R) : Bool := match seqOf g r with
  | some (false, _) => true
  | _ => false
def fMt (m : Mt) (f : FE) (fs : FAr) : FE := fun g => (f g).bind fun r g1 => if isLst g1 r then (fs g1).bind fun rs g2 => ofM (m g2 r rs) else .no
def putC (g : G) (j : Nat) (ct : Ct) : G := { g with ce := g.ce.set j ct }
def onL (f : List PyData → Option (R × List PyData)) (g : G) (r : R) : Option (R × G) := match r with
  | .o j => match g.ce[j]? with
    | some (.lst ds) => (f ds).map fun p => (p.1, putC g j (.lst p.2))
    | _ => none
  | _ => none
theorem onL_eq {f : List PyData → Option (R × List PyData)} {g g' : G} {r q : R} (h : onL f g r = some (q, g')) : ∃ j ds es, r = .o j ∧ g.ce[j]? = some (.lst ds) ∧ f ds = some (q, es) ∧ g' = putC g j (.lst es) := by
  unfold onL at h
  split at h
  · rename_i j
    split at h
    · rename_i ds e
      cases hf : f ds with
      | none => rw [hf] at h; cases h
      | some p => rw [hf] at h; cases h; exact ⟨j, ds, p.2, rfl, e, hf, rfl⟩
    · cases h
  · cases h
def mtAppend : Mt := fun g r rs => match rs with
  | [.d x] => onL (fun ds => if ds.length < 100000 then some (.d .none, ds ++ [x]) else none) g r
  | _ => none
def mtInsert : Mt := fun g r rs => match rs with
  | [.d (.int i), .d x] => onL (fun ds => if ds.length < 100000 ∧ 0 ≤ i ∧ i < 2 ^ 63 then some (.d .none, ds.take i.toNat ++ [x] ++ ds.drop i.toNat) else none) g r
  | _ => none
def popL (i : Int) (ds : List PyData) : Option (R × List PyData) := if -(2 ^ 63) ≤ i ∧ i < 2 ^ 63 then match seqIndex? i ds.length with
  | some n => match ds[n]? with
    | some x => some (.d x, ds.eraseIdx n)
    | none => none
  | none => none else none
def mtPop : Mt := fun g r rs => match rs with
  | [.d (.int i)] => onL (popL i) g r
  | _ => none
def mtExtend : Mt := fun g r rs => match rs with
  | [r1] => match seqOf g r1 with
    | some (false, es) => if isMade r1 then onL (fun ds => if ds.length + es.length ≤ 100000 then some (.d .none, ds ++ es) else none) g r else none
    | _ => none
  | _ => none
def mtIndex : Mt := fun g r rs => match rs with
  | [r1] => match datOf g r, datOf g r1 with
    | some (.list ds), some d => if SeqAt.shaped (.list ds) && SeqAt.shaped d then (ds.findIdx? (fun z => PyData.eqv z d)).map fun n => (.d (.int (n : Nat)), g) else none
    | _, _ => none
  | _ => none
def tN (i : Nat) : FG := fun r g => .ok () { g with sl := g.sl.set i (some r) }
def tNil : FGs := fun rs g => match rs with
  | [] => .ok () g
  | _ => .no
def tCons (t : FG) (u : FGs) : FGs := fun rs g => match rs with
  | r :: rs => (t r g).bind fun _ g1 => u rs g1
  | [] => .no
def tTup (n : Nat) (t : FGs) : FG := fun r g => match r with
  | .d (.tuple ds) => if ds.length = n then t (ds.map .d) g else .no
  | _ => .no
def tSub (fo fi : FE) : FG := fun r g => (fo g).bind fun r1 g1 => (fi g1).bind fun r2 g2 => match r, r2 with
  | .d x, .d (.int i) => match onL (fun ds => (ixN ds.length i).map fun n => (.d .none, ds.set n x)) g2 r1 with
    | some (_, g3) => .ok () g3
    | none => .no
  | _, _ => .no
def sNx : FS := fun g => .ok .nx g
def sCt : FS := fun g => .ok .ct g
def sBk : FS := fun g => .ok .bk g
def sSq (a b : FS) : FS := fun g => (a g).bind fun f g1 => match f with
  | .nx => b g1
  | f => .ok f g1
def sEx (f : FE) : FS := fun g => (f g).bind fun _ g1 => .ok .nx g1
def sRt (f : FE) : FS := fun g => (f g).bind fun r g1 => .ok (.rt r) g1
def sRtN : FS := fun g => .ok (.rt (.d .none)) g
def sIte (t : FT) (a b : FS) : FS := fun g => (t g).bind fun c g1 => if c = true then a g1 else b g1
def sSet (f : FE) (t : FG) : FS := fun g => (f g).bind fun r g1 => (t r g1).bind fun _ g2 => .ok .nx g2
def sP2 (i j : Nat) (fs : FAr) : FS := fun g => (fs g).bind fun rs g1 => match rs with
  | [r1, r2] => .ok .nx { g1 with sl := (g1.sl.set i (some r1)).set j (some r2) }
  | _ => .no
def sP3 (i j l : Nat) (fs : FAr) : FS := fun g => (fs g).bind fun rs g1 => match rs with
  | [r1, r2, r3] => .ok .nx { g1 with sl := ((g1.sl.set i (some r1)).set j (some r2)).set l (some r3) }
  | _ => .no
def sAg (i : Nat) (o : Int → Int → Option Int) (f : FE) : FS := fun g => match g.sl[i]? with
  | some (some (.d (.int n))) => (f g).bind fun r g1 => match r with
    | .d (.int m) => match o n m with
      | some q => .ok .nx { g1 with sl := g1.sl.set i (some (.d (.int q))) }
      | none => .no
    | _ => .no
  | _ => .no
def sPut (fd fi fv : FE) : FS := fun g => (fv g).bind fun rv g1 => (fd g1).bind fun rd g2 => (fi g2).bind fun ri g3 => match rv, rd, ri with
  | .d x, .o j, .d key => match g3.ce[j]? with
    | some ct => match dPut ct key x with
      | some ct' => .ok .nx (putC g3 j ct')
      | none => .no
    | none => .no
  | _, _, _ => .no
def sNo : FS := fun _ => .no
def whSt (t : FT) (u w : FS) : FS := fun g => (t g).bind fun c g1 => if c = true then (u g1).bind fun f g2 => match f with
  | .nx => w g2
  | .ct => w g2
  | .bk => .ok .nx g2
  | .rt r => .ok (.rt r) g2 else .ok .nx g1
def whGo (t : FT) (u : FS) : Nat → FS
  | 0 => fun _ => .no
  | n + 1 => whSt t u (whGo t u n)
open Classical in
noncomputable def sWh (t : FT) (u : FS) : FS := fun g => if h : ∃ n, whGo t u n g ≠ .no then whGo t u (Classical.choose h) g else .no
/-- one turn looks at the rest at one place at most -/
theorem whSt_at (t : FT) (u : FS) (g : G) : (∃ g2, ∀ w, whSt t u w g = w g2) ∨ ∃ o, ∀ w, whSt t u w g = o := by
  unfold whSt
  cases t g with
  | no => exact .inr ⟨_, fun _ => rfl⟩
  | ex n g => exact .inr ⟨_, fun _ => rfl⟩
  | ok c g1 =>
    cases c with
    | false => exact .inr ⟨_, fun _ => rfl⟩
    | true =>
      simp only [bind_ok, if_true]
      cases u g1 with
      | no => exact .inr ⟨_, fun _ => rfl⟩
      | ex n g => exact .inr ⟨_, fun _ => rfl⟩
      | ok f g2 =>
        cases f with
        | nx => exact .inl ⟨g2, fun _ => rfl⟩
        | ct => exact .inl ⟨g2, fun _ => rfl⟩
        | bk => exact .inr ⟨_, fun _ => rfl⟩
        | rt r => exact .inr ⟨_, fun _ => rfl⟩
theorem whGo_succ {t : FT} {u : FS} : ∀ {n : Nat} {g : G}, whGo t u n g ≠ .no → whGo t u (n + 1) g = whGo t u n g
  | 0, g, h => absurd rfl h
  | n + 1, g, h => by
    show whSt t u (whGo t u (n + 1)) g = whSt t u (whGo t u n) g
    have h : whSt t u (whGo t u n) g ≠ .no := h
    rcases whSt_at t u g with ⟨g2, e⟩ | ⟨o, e⟩
    · rw [e, e]
      rw [e] at h
      exact whGo_succ h
    · rw [e, e]
theorem whGo_le {t : FT} {u : FS} {n m : Nat} {g : G} (hm : n ≤ m) (h : whGo t u n g ≠ .no) : whGo t u m g = whGo t u n g := by
  induction hm with
  | refl => rfl
  | step _ ih => rw [whGo_succ (by rw [ih]; exact h), ih]
theorem sWh_of {t : FT} {u : FS} {n : Nat} {g : G} (h : whGo t u n g ≠ .no) : sWh t u g = whGo t u n g := by
  have hx : ∃ n, whGo t u n g ≠ .no := ⟨n, h⟩
  unfold sWh
  rw [dif_pos hx]
  have hc := Classical.choose_spec hx
  rcases Nat.le_total n (Classical.choose hx) with z | z
  · exact whGo_le z h
  · exact (whGo_le z hc).symm
theorem sWh_ex {t : FT} {u : FS} {g : G} (h : sWh t u g ≠ .no) : ∃ n, whGo t u n g = sWh t u g := by
  by_cases hx : ∃ n, whGo t u n g ≠ .no
  · obtain ⟨n, hn⟩ := hx
    exact ⟨n, (sWh_of hn).symm⟩
  · unfold sWh at h
    rw [dif_neg hx] at h
    exact absurd rfl h
/-- THE STEP of a while -/
theorem sWh_step (t : FT) (u : FS) (g : G) : sWh t u g = whSt t u (sWh t u) g := by
  by_cases hx : ∃ n, whGo t u n g ≠ .no
  · obtain ⟨n, hn⟩ := hx
    have hn' : whGo t u (n + 1) g ≠ .no := by rw [whGo_succ hn]; exact hn
    rw [sWh_of hn']
    show whSt t u (whGo t u n) g = _
    have hn' : whSt t u (whGo t u n) g ≠ .no := hn'
    rcases whSt_at t u g with ⟨g2, e⟩ | ⟨o, e⟩
    · rw [e, e]
      rw [e] at hn'
      exact (sWh_of hn').symm
    · rw [e, e]
  · have e : sWh t u g = .no := by unfold sWh; rw [dif_neg hx]
    rw [e]
    refine Classical.byContradiction fun z => hx ?_
    have z : whSt t u (sWh t u) g ≠ .no := fun y => z y.symm
    rcases whSt_at t u g with ⟨g2, e⟩ | ⟨o, e⟩
    · rw [e] at z
      obtain ⟨n, hn⟩ := sWh_ex z
      refine ⟨n + 1, ?_⟩
      show whSt t u (whGo t u n) g ≠ .no
      rw [e, hn]
      exact z
    · refine ⟨1, ?_⟩
      show whSt t u (whGo t u 0) g ≠ .no
      rw [e] at z ⊢
      exact z
def forGo (t : FG) (u : FS) : List PyData → FS
  | [] => fun g => .ok .nx g
  | x :: ds => fun g => (t (.d x) g).bind fun _ g1 => (u g1).bind fun f g2 => match f with
    | .nx => forGo t u ds g2
    | .ct => forGo t u ds g2
    | .bk => .ok .nx g2
    | .rt r => .ok (.rt r) g2
def sFr (i : FI) (t : FG) (u : FS) : FS := fun g => (i g).bind fun ds g1 => forGo t u ds g1
def lcGo (t : FG) (c : FT) (f : FE) (sl : List (Option R)) (ws : List Nat) : List PyData → List PyData → List Ct → Out (List PyData)
  | [], acc, ce => .ok acc ⟨sl, ce⟩
  | x :: ds, acc, ce => if acc.length < 100000 then match t (.d x) ⟨wipeG sl ws, ce⟩ with
    | .ok _ g2 => match c g2 with
      | .ok true g3 => match f g3 with
        | .ok (.d d) g4 => lcGo t c f sl ws ds (acc ++ [d]) g4.ce
        | _ => .no
      | .ok false g3 => lcGo t c f sl ws ds acc g3.ce
      | _ => .no
    | _ => .no else .no
def fLc (i : FI) (t : FG) (c : FT) (f : FE) (ws : List Nat) : FE := fun g => (i g).bind fun ds g1 => (lcGo t c f g1.sl ws ds [] g1.ce).bind fun acc g2 => .ok (.d (.list acc)) g2
def fLcO (i : FI) (t : FG) (c : FT) (f : FE) (ws : List Nat) : FE := fun g => (i g).bind fun ds g1 => (lcGo t c f g1.sl ws ds [] g1.ce).bind fun acc g2 => newO (.lst acc) g2
def iSeq (f : FE) : FI := fun g => (f g).bind fun r g1 => if noO r then match seqOf g1 r with
  | some (_, ds) => .ok ds g1
  | none => .no else .no
def rOk (i : Int) : Bool := decide (-(2 ^ 62) ≤ i ∧ i < 2 ^ 62)
def iRg1 (fs : FAr) : FI := fun g => (fs g).bind fun rs g1 => match rs with
  | [.d (.int j)] => if rOk j then .ok (rng 0 j.toNat) g1 else .no
  | _ => .no
def iRg2 (fs : FAr) : FI := fun g => (fs g).bind fun rs g1 => match rs with
  | [.d (.int i), .d (.int j)] => if rOk i && rOk j then .ok (rng i (j - i).toNat) g1 else .no
  | _ => .no
def iEn (fs : FAr) : FI := fun g => (fs g).bind fun rs g1 => match rs with
  | [r] => if noO r then match seqOf g1 r with
    | some (_, ds) => .ok (enumD ds) g1
    | none => .no else .no
  | _ => .no
def seqD : PyData → Option (List PyData)
  | .list ds => some ds
  | .tuple ds => some ds
  | _ => none
def iZ2 (fs : FAr) : FI := fun g => (fs g).bind fun rs g1 => match rs with
  | [.d x, .d y] => match seqD x, seqD y with
    | some xs, some ys => if ys.length = xs.length then .ok (zip2 xs ys) g1 else .no
    | _, _ => .no
  | _ => .no
def iZ3 (fs : FAr) : FI := fun g => (fs g).bind fun rs g1 => match rs with
  | [.d x, .d y, .d z] => match seqD x, seqD y, seqD z with
    | some xs, some ys, some zs => if ys.length = xs.length ∧ zs.length = xs.length then .ok (zip3 xs ys zs) g1 else .no
    | _, _, _ => .no
  | _ => .no
def clLz2 : Cl := fun g rs => match rs with
  | [r1, r2] => match seqOf g r1, seqOf g r2 with
    | some (_, xs), some (_, ys) => if ys.length = xs.length then some (.d (.list (zip2 xs ys))) else none
    | _, _ => none
  | _ => none
def clLz3 : Cl := fun g rs => match rs with
  | [r1, r2, r3] => match seqOf g r1, seqOf g r2, seqOf g r3 with
    | some (_, xs), some (_, ys), some (_, zs) => if ys.length = xs.length ∧ zs.length = xs.length then some (.d (.list (zip3 xs ys zs))) else none
    | _, _, _ => none
  | _ => none
inductive OutF where
  | ok (q : Res) (bx : List Ct)
  | ex (n : Xn) (bx : List Ct)
  | no
abbrev Fn := List R → List Ct → OutF
def resF (own : Bool) (g : G) : Res → R × G
  | .dat x => (.d x, g)
  | .shC ct => (.m ct, g)
  | .newC ct => if own then (.o g.ce.length, { g with ce := g.ce ++ [ct] }) else (shR ct, g)
def callF (f : Fn) (own : Bool) (rs : List R) (g : G) : Out R :=
  if (boxes rs).Nodup ∧ (∀ j ∈ boxes rs, aliveB g.ce[j]? = true) ∧ rs.all noL = true then match f (rs.map (renR (boxes rs))) ((boxes rs).map fun j => g.ce.getD j .dead) with
    | .ok q bx => .ok (resF own { g with ce := wb g.ce (boxes rs) bx } q).1 (resF own { g with ce := wb g.ce (boxes rs) bx } q).2
    | .ex n bx => .ex n { g with ce := wb g.ce (boxes rs) bx }
    | .no => .no else .no
def fCall (f : Fn) (own : Bool) (fs : FAr) : FE := fun g => (fs g).bind fun rs g1 => callF f own rs g1
def finF (m : Nat) (r : R) (g : G) : OutF := match r with
  | .d x => .ok (.dat x) (g.ce.take m)
  | .m ct => .ok (.shC ct) (g.ce.take m)
  | .o j => if m ≤ j then match g.ce[j]? with
    | some .dead => .no
    | some ct => .ok (.newC ct) (g.ce.take m)
    | none => .no else .no
  | _ => .no
/-- a def: n slots, the body -/
def mkFn (n : Nat) (f : FS) : Fn := fun rs bx => match f (g0 n rs bx) with
  | .ok .nx g => finF bx.length (.d .none) g
  | .ok (.rt r) g => finF bx.length r g
  | .ex n g => .ex n (g.ce.take bx.length)
  | _ => .no
end DL
set_option Elab.async false
set_option linter.all false
set_option maxRecDepth 100000
set_option maxHeartbeats 4000000
set_option autoImplicit false
namespace DL
open PySem PySem.Spec PyProof.Rows L2
abbrev PF (ρ : Root) (X : Cx) (dx : DX) (e : Expr) (f : FE) : Prop := PD ρ X e (rd dx f)
abbrev PFT (ρ : Root) (X : Cx) (dx : DX) (e : Expr) (f : FT) : Prop := PDT ρ X e (rd dx f)
abbrev PFW (ρ : Root) (X : Cx) (dx : DX) (e : Expr) (f : FT) : Prop := PDW ρ X e (rd dx f)
abbrev PFTs (ρ : Root) (X : Cx) (dx : DX) (e : List Expr) (f : FT) : Prop := PDTs ρ X e (rd dx f)
abbrev PFA (ρ : Root) (X : Cx) (dx : DX) (e : List Expr) (f : FAr) : Prop := PDA ρ X e (rd dx f)
abbrev PFI (ρ : Root) (X : Cx) (dx : DX) (tg e : Expr) (f : FI) : Prop := PDI ρ X tg e (rd dx f)
abbrev PFO (ρ : Root) (X : Cx) (dx : DX) (e : Option Expr) (f : FO) : Prop := PDO ρ X e (rd dx f)
abbrev PFG (ρ : Root) (X : Cx) (dx : DX) (ws : List Nat) (e : Expr) (f : FG) : Prop := PDG ρ X ws e (rG dx f)
abbrev PFGs (ρ : Root) (X : Cx) (dx : DX) (ws : List Nat) (e : List Expr) (f : FGs) : Prop := PDGs ρ X ws e (rGs dx f)
abbrev PFS (ρ : Root) (X : Cx) (dx : DX) (e : Stmt) (f : FS) : Prop := PDS ρ X e (rS dx f)
abbrev PFSs (ρ : Root) (X : Cx) (dx : DX) (e : List Stmt) (f : FS) : Prop := PDSs ρ X e (rS dx f)
section
variable {ρ : Root} {X : Cx} {dx : DX} {e a b c : Expr} {es : List Expr} {pos : Pos} {f f1 f2 f3 : FE} {fs : FAr} {t u : FT}
theorem q_var (i : Nat) {x : Str} (hN : X.N[i]? = some x := by rfl) (hv : Vis X.env.scope x := by first | exact Or.inl rfl | exact Or.inr (Or.inl rfl) | exact Or.inr (Or.inr rfl)) (hd : (x == ("__debug__" : Str)) = false := by decide)
    (hcd : (x == ("__classdict__" : Str)) = false := by decide) : PF ρ X dx (.Name x pos) (fVar i) := pd_mono (pd_var i hN hv hd hcd) fun g k h => by
  unfold rd fVar at h
  split at h
  · rename_i r hr; exact ⟨r, hr, h⟩
  · exact h.elim
theorem q_int {i : Int} {j : Nat} : PF ρ X dx (.Constant (.int i) j pos) (fC (.int i)) := pd_mono pd_int fun _ _ h => h
theorem q_bool {i : Bool} {j : Nat} : PF ρ X dx (.Constant (.bool i) j pos) (fC (.bool i)) := pd_mono pd_bool fun _ _ h => h
theorem q_none {j : Nat} : PF ρ X dx (.Constant .none j pos) (fC .none) := pd_mono pd_none fun _ _ h => h
theorem q_str {i : Str} {j : Nat} : PF ρ X dx (.Constant (.str i) j pos) (fC (.str i)) := pd_mono pd_str fun _ _ h => h
theorem OpR.or {f : Value → Value → Sem Value} {r1 r2 : R2} (h1 : OpR X f r1) (h2 : OpR X f r2) : OpR X f (fun x y H Q => r1 x y H Q ∨ r2 x y H Q) := fun pins s σ H x y v u Q I a b h => h.elim (h1 pins s σ H x y v u Q I a b) (h2 pins s σ H x y v u Q I a b)
theorem RefOp.or {K : KR} {r1 r2 : R2} {d1 d2 : D2} (h1 : RefOp K r1 d1) (h2 : RefOp K r2 d2) : RefOp K (fun x y H Q => r1 x y H Q ∨ r2 x y H Q) (fun a b g k => d1 a b g k ∨ d2 a b g k) := fun F g tm s H B al x y r1 r2 k Q S hx hy h q => h.elim (fun h => .inl (h1 F g tm s H B al x y r1 r2 k Q S hx hy h q)) (fun h => .inr (h2 F g tm s H B al x y r1 r2 k Q S hx hy h q))
/-- an operation says what the function says -/
def Says (op : Op2) (dr : D2) : Prop := ∀ r1 r2 g k r, op g r1 r2 = some r → k r g → dr r1 r2 g k
theorem rd_op {op : Op2} {dr : D2} (h : Says op dr) : ∀ g k, rd dx (fOp op f1 f2) g k → dOp dr (rd dx f1) (rd dx f2) g k := fun g k hk => by
  unfold rd fOp at hk
  refine go_mono (go_bind.mp hk) fun r1 g1 h1 => go_mono (go_bind.mp h1) fun r2 g2 h2 => ?_
  obtain ⟨r, e, hr⟩ := go_ofO h2
  exact h r1 r2 g2 k r e hr
theorem says_I {fo : Int → Int → PyData} {fi : Int → Int → Option PyData} (h : ∀ i j x, fi i j = some x → x = fo i j) : Says (onI fi) (oI0 fo) := fun r1 r2 g k r e hk => by
  obtain ⟨i, j, x, rfl, rfl, ef, rfl⟩ := onI_eq e
  rw [h i j x ef] at hk
  exact ⟨i, j, rfl, rfl, hk⟩
theorem says_IC {C : Int → Int → Prop} {fo : Int → Int → PyData} {fi : Int → Int → Option PyData} (h : ∀ i j x, fi i j = some x → x = fo i j ∧ C i j) : Says (onI fi) (oI C fo) := fun r1 r2 g k r e hk => by
  obtain ⟨i, j, x, rfl, rfl, ef, rfl⟩ := onI_eq e
  rw [(h i j x ef).1] at hk
  exact ⟨i, j, rfl, rfl, (h i j x ef).2, hk⟩
theorem says_sub : Says opSub oSub := says_I fun _ _ _ h => by cases h; rfl
theorem says_lt : Says opLt oLt := says_I fun _ _ _ h => by cases h; rfl
theorem says_le : Says opLe oLe := says_I fun _ _ _ h => by cases h; rfl
theorem says_gt : Says opGt oGt := says_I fun _ _ _ h => by cases h; rfl
theorem says_ge : Says opGe oGe := says_I fun _ _ _ h => by cases h; rfl
theorem says_mod : Says opMod oMod := says_IC fun i j x h => by
  split at h
  · rename_i hj; cases h; exact ⟨rfl, hj⟩
  · cases h
theorem says_div : Says opDiv oDiv := says_IC fun i j x h => by
  split at h
  · rename_i hj; cases h; exact ⟨rfl, hj⟩
  · cases h
theorem says_pow : Says opPow oPow := says_IC fun i j x h => by
  split at h
  · rename_i hj; cases h; exact ⟨rfl, hj⟩
  · cases h
theorem says_mul : Says opMul oMul := fun r1 r2 g k r e hk => by
  unfold opMul at e
  split at e
  · split at e
    · rename_i i j h
      cases e
      exact ⟨i, j, rfl, rfl, (by unfold mulOk at h; unfold CMul; exact of_decide_eq_true h), hk⟩
    · cases e
  · cases e
theorem cat2_eq {g : G} {r1 r2 : R} {l : List PyData} (h : cat2 g r1 r2 = some l) : ∃ xs ys, seqOf g r1 = some (false, xs) ∧ seqOf g r2 = some (false, ys) ∧ isMade r1 = true ∧ isMade r2 = true ∧ xs.length + ys.length ≤ 100000 ∧ l = xs ++ ys := by
  unfold cat2 at h
  split at h
  · split at h
    · rename_i xs ys e1 e2 hc
      cases h
      simp only [Bool.and_eq_true, decide_eq_true_eq] at hc
      exact ⟨xs, ys, e1, e2, hc.1.1, hc.1.2, hc.2, rfl⟩
    · cases h
  · cases h
theorem says_add : Says opAdd (fun a b g k => oAdd a b g k ∨ oCatT a b g k ∨ oCatL a b g k) := fun r1 r2 g k r e hk => by
  unfold opAdd at e
  split at e
  · cases e; exact .inl ⟨_, _, rfl, rfl, hk⟩
  · split at e
    · rename_i h
      cases e
      exact .inr (.inl ⟨_, _, rfl, rfl, h, hk⟩)
    · cases e
  · cases hc : cat2 g r1 r2 with
    | none => rw [hc] at e; cases e
    | some l =>
      rw [hc] at e
      cases e
      obtain ⟨xs, ys, h1, h2, h3, h4, h5, rfl⟩ := cat2_eq hc
      exact .inr (.inr ⟨xs, ys, h1, h2, h3, h4, h5, hk⟩)
theorem says_eq : Says opEq oEq := fun r1 r2 g k r e hk => by
  unfold opEq at e
  split at e
  · split at e
    · rename_i x y e1 e2 hc
      cases e
      simp only [Bool.and_eq_true] at hc
      exact ⟨x, y, e1, e2, hc.1, hc.2, hk⟩
    · cases e
  · cases e
theorem says_ne : Says opNe oNe := fun r1 r2 g k r e hk => by
  unfold opNe at e
  split at e
  · split at e
    · rename_i x y e1 e2 hc
      cases e
      simp only [Bool.and_eq_true] at hc
      exact ⟨x, y, e1, e2, hc.1, hc.2, hk⟩
    · cases e
  · cases e
theorem rv_isN {K : KR} {B : Hp} {al : List Addr} {v : V} {r : R} (h : RvOk K B al v r) : decide (v = .non) = isNR r := by
  cases r with
  | d x => exact dq_isN h
  | o j => obtain ⟨a, _, rfl⟩ := h; rfl
  | s ns => obtain ⟨a, rfl, _⟩ := h; rfl
  | x n => obtain ⟨a, _, rfl, _⟩ := h; rfl
  | m ct => obtain ⟨a, rfl, _⟩ := h; rfl
  | l js => obtain ⟨a, _, rfl, _⟩ := h; rfl
def oIsR : D2 := fun r1 r2 g k => r2 = .d .none ∧ k (.d (.bool (isNR r1))) g
theorem ref_isR {K : KR} : RefOp K (fun x y H Q => y = .non ∧ Q (.bl (decide (x = .non))) H) oIsR := by
  rintro F g tm s H B al x y r1 r2 k Q S hx hy ⟨rfl, hk⟩ q
  refine ⟨dq_none hy, ?_⟩
  rw [rv_isN hx]
  exact q _ H _ g B al hk S (Dq.bl _)
theorem says_isN : Says opIsN oIsR := fun r1 r2 g k r e hk => by
  unfold opIsN at e
  split at e
  · cases e; exact ⟨rfl, hk⟩
  · cases e
theorem q_add (ha : PF ρ X dx a f1) (hb : PF ρ X dx b f2) : PF ρ X dx (.BinOp a .Add b pos) (fOp opAdd f1 f2) :=
  pd_mono (pd_op (OpR.or op_add (OpR.or op_catA op_cat)) (RefOp.or (ref_I0 fun _ _ _ => .int _) (RefOp.or (by
  rintro F g tm s H B al x y r1 r2 k Q S hx hy ⟨ds, es, rfl, rfl, hz, hk⟩ q
  obtain ⟨a, xs, rfl, h1, h2⟩ := dq_tup hx
  obtain ⟨b, ys, rfl, h3, h4⟩ := dq_tup hy
  refine ⟨a, b, xs, ys, rfl, rfl, .inl (.inl (S.bh _ _ h1)), .inl (.inl (S.bh _ _ h3)), by rw [dqall_len h2, dqall_len h4]; exact sz_ok hz, fun e => ?_, fun _ e => ?_, fun _ _ p hp => new_t S hp (dqall_app h2 h4) hk q⟩
  · subst e
    cases h2
    exact q _ H _ g B al hk S hy
  · subst e
    cases h4
    rw [List.append_nil] at hk
    exact q _ H _ g B al hk S hx) (by
  rintro F g tm s H B al x y r1 r2 k Q S hx hy ⟨ds, es, e1, e2, m1, m2, hz, hk⟩ q
  obtain ⟨a, xs, rfl, h1, h2⟩ := S.seqM hx e1 m1
  obtain ⟨b, ys, rfl, h3, h4⟩ := S.seqM hy e2 m2
  exact ⟨a, b, xs, ys, rfl, rfl, h1, h3, by rw [dqall_len h2, dqall_len h4]; exact sz_ok hz, fun p hp => new_l S hp (dqall_app h2 h4) hk q⟩))) ha hb) (rd_op says_add)
theorem q_sub (ha : PF ρ X dx a f1) (hb : PF ρ X dx b f2) : PF ρ X dx (.BinOp a .Sub b pos) (fOp opSub f1 f2) := pd_mono (pd_sub ha hb) (rd_op says_sub)
theorem q_mul (ha : PF ρ X dx a f1) (hb : PF ρ X dx b f2) : PF ρ X dx (.BinOp a .Mult b pos) (fOp opMul f1 f2) := pd_mono (pd_mul ha hb) (rd_op says_mul)
theorem q_mod (ha : PF ρ X dx a f1) (hb : PF ρ X dx b f2) : PF ρ X dx (.BinOp a .Mod b pos) (fOp opMod f1 f2) := pd_mono (pd_mod ha hb) (rd_op says_mod)
theorem q_div (ha : PF ρ X dx a f1) (hb : PF ρ X dx b f2) : PF ρ X dx (.BinOp a .FloorDiv b pos) (fOp opDiv f1 f2) := pd_mono (pd_div ha hb) (rd_op says_div)
theorem q_pow (ha : PF ρ X dx a f1) (hb : PF ρ X dx b f2) : PF ρ X dx (.BinOp a .Pow b pos) (fOp opPow f1 f2) := pd_mono (pd_pow ha hb) (rd_op says_pow)
theorem q_neg (ha : PF ρ X dx a f) : PF ρ X dx (.UnaryOp .USub a pos) (fNeg f) := pd_mono (pd_neg ha) fun g k h => by
  refine go_mono (go_bind.mp h) fun r g1 h1 => ?_
  split at h1
  · exact ⟨_, rfl, h1⟩
  · exact h1.elim
theorem rd_tst : ∀ g k, rd dx (fTst f) g k → dTst (rd dx f) g k := fun g k h => by
  refine go_mono (go_bind.mp h) fun r g1 h1 => ?_
  split at h1
  · exact ⟨_, rfl, h1⟩
  · exact h1.elim
theorem rd_tstop {op : Op2} {dr : D2} (h : Says op dr) : ∀ g k, rd dx (fTst (fOp op f1 f2)) g k → dTst (dOp dr (rd dx f1) (rd dx f2)) g k := fun g k hk => rd_op h g _ (rd_tst g k hk)
def OvOk (B : Hp) (ov : Option V) : Option PyData → Prop
  | some x => ∃ v, ov = some v ∧ Dq B v x
  | none => ov = none
theorem val_ok {κ : Type} [DecidableEq κ] {B : Hp} {k : κ} : ∀ {us : List (κ × V)} {kvs : List (κ × PyData)}, Paired (fun (p : κ × V) (q : κ × PyData) => p.1 = q.1 ∧ Dq B p.2 q.2) us kvs → OvOk B (valV us k) (valP kvs k)
  | _, _, .nil => rfl
  | _, _, @Paired.cons _ _ _ p q us kvs h t => by
    have ih := val_ok (k := k) t
    obtain ⟨q1, q2⟩ := q
    by_cases e : q1 = k
    · rw [valP, if_pos e]
      exact ⟨p.2, valV_pos (h.1.trans e), h.2⟩
    · have e' : ¬ p.1 = k := fun z => e (h.1.symm.trans z)
      have n : valV (p :: us) k = valV us k := by simp [valV, List.find?_cons, e']
      rw [valP, if_neg e, n]
      exact ih
theorem any_okP {κ : Type} [DecidableEq κ] {B : Hp} {k : κ} : ∀ {us : List (κ × V)} {kvs : List (κ × PyData)}, Paired (fun (p : κ × V) (q : κ × PyData) => p.1 = q.1 ∧ Dq B p.2 q.2) us kvs → (us.any fun kv => decide (kv.1 = k)) = kvs.any fun p => decide (p.1 = k)
  | _, _, .nil => rfl
  | _, _, @Paired.cons _ _ _ p q us kvs h t => by rw [List.any_cons, List.any_cons, any_okP t, h.1]
theorem map_okP {κ : Type} [DecidableEq κ] {B : Hp} {k : κ} {v : V} {x : PyData} (hv : Dq B v x) : ∀ {us : List (κ × V)} {kvs : List (κ × PyData)}, Paired (fun (p : κ × V) (q : κ × PyData) => p.1 = q.1 ∧ Dq B p.2 q.2) us kvs → Paired (fun (p : κ × V) (q : κ × PyData) => p.1 = q.1 ∧ Dq B p.2 q.2) (us.map (fun kv => if kv.1 = k then (kv.1, v) else kv)) (kvs.map (fun p => if p.1 = k then (p.1, x) else p))
  | _, _, .nil => .nil
  | _, _, @Paired.cons _ _ _ p q us kvs h t => by
    refine .cons ?_ (map_okP hv t)
    show (if p.1 = k then (p.1, v) else p).1 = (if q.1 = k then (q.1, x) else q).1 ∧ Dq B (if p.1 = k then (p.1, v) else p).2 (if q.1 = k then (q.1, x) else q).2
    by_cases e : p.1 = k
    · rw [if_pos e, if_pos (h.1 ▸ e)]; exact ⟨h.1, hv⟩
    · rw [if_neg e, if_neg (fun z => e (h.1.trans z))]; exact h
theorem put_okP {κ : Type} [DecidableEq κ] {B : Hp} {k : κ} {v : V} {x : PyData} (hv : Dq B v x) {us : List (κ × V)} {kvs : List (κ × PyData)} (h : Paired (fun (p : κ × V) (q : κ × PyData) => p.1 = q.1 ∧ Dq B p.2 q.2) us kvs) : Paired (fun (p : κ × V) (q : κ × PyData) => p.1 = q.1 ∧ Dq B p.2 q.2) (putK us k v) (putP kvs k x) := by
  unfold putK putP
  rw [any_okP h]
  by_cases e : (kvs.any fun p => decide (p.1 = k)) = true
  · rw [if_pos e, if_pos e]; exact map_okP hv h
  · rw [if_neg e, if_neg e]; exact app_ok h (.cons ⟨rfl, hv⟩ .nil)
theorem key_ok {B : Hp} {v : V} {d : PyData} {k : Key} (h : Dq B v d) (e : keyOf d = some k) : v = kV k := by
  cases d with
  | int i => cases e; exact dq_int h
  | str i => cases e; exact dq_str h
  | _ => cases e
theorem keys_okP {B : Hp} : ∀ {vs : List V} {ds : List PyData} {ks : List Key}, DqAll B vs ds → keysOf ds = some ks → vs = ks.map kV
  | _, [], ks, .nil, e => by cases e; rfl
  | _, d :: ds, ks, .cons a b, e => by
    rw [keysOf] at e
    split at e
    · rename_i k ks' h1 h2
      cases e
      rw [key_ok a h1, keys_okP b h2]
      rfl
    · cases e
theorem tkey_ok {B : Hp} {v : V} {d : PyData} {ks : List Key} (h : Dq B v d) (e : tkeyOf d = some ks) : ∃ b, v = .ref b ∧ B b = some (.tup (ks.map kV)) := by
  cases d with
  | tuple ds =>
    obtain ⟨a, xs, rfl, h1, h2⟩ := dq_tup h
    rw [keys_okP h2 e] at h1
    exact ⟨a, rfl, h1⟩
  | _ => cases e
theorem Stt.dict {K : KR} {F : Fm} {g : G} {tm : List (V × R)} {s : L2.St} {H B : Hp} {al : List Addr} (S : Stt K F g tm s H B al) {v : V} {r : R} {ct : Ct} (hv : RvOk K B al v r) (h : dictAt g r = some ct) : ∃ a, v = .ref a ∧ dictC ct = true ∧ CtOk K B al H a ct := by
  cases r with
  | d x => cases h
  | s x => cases h
  | x n => cases h
  | l js => cases h
  | o j =>
    obtain ⟨a, h1, h2⟩ := hv
    have h : (match g.ce[j]? with | some ct => if dictC ct then some ct else none | none => none) = some ct := h
    cases hc : g.ce[j]? with
    | none => rw [hc] at h; cases h
    | some c =>
      rw [hc] at h
      by_cases q : dictC c = true
      · simp only [q, if_true] at h
        cases h
        exact ⟨a, h2, q, S.ce j a _ h1 hc⟩
      · simp only [q] at h
        cases h
  | m c =>
    obtain ⟨a, h1, h2, h3⟩ := hv
    have h : (if dictC c then some c else none) = some ct := h
    by_cases q : dictC c = true
    · simp only [q, if_true] at h
      cases h
      exact ⟨a, h1, q, ct_mono0 (Same.refl _) (fun o e => S.bh _ _ e) h3⟩
    · simp only [q] at h
      cases h
theorem dget_ok {K : KR} {F : Fm} {g : G} {tm : List (V × R)} {s : L2.St} {H B : Hp} {al : List Addr} (S : Stt K F g tm s H B al) {a : Addr} {y : V} {key : PyData} {ct : Ct} {o : Option PyData} (hc : CtOk K B al H a ct) (hy : Dq B y key) (e : dGet ct key = some o) :
    ∃ ov, DGet H a y ov ∧ OvOk B ov o := by
  cases ct with
  | dead => cases e
  | lst ds => cases e
  | dK kvs =>
    obtain ⟨us, h1, h2⟩ := hc
    cases hk : keyOf key with
    | none => simp only [dGet, hk] at e; cases e
    | some k =>
      simp only [dGet, hk, Option.map_some, Option.some.injEq] at e
      refine ⟨valV us k, .inl ⟨us, k, .inl h1, key_ok hy hk, rfl⟩, ?_⟩
      rw [← e]
      exact val_ok h2
  | dN kvs => cases e
  | dL kvs => cases e
  | dF kvs => cases e
  | dT kvs =>
    obtain ⟨us, h1, h2⟩ := hc
    cases hk : tkeyOf key with
    | none => simp only [dGet, hk] at e; cases e
    | some k =>
      simp only [dGet, hk, Option.map_some, Option.some.injEq] at e
      obtain ⟨b, eb, hb⟩ := tkey_ok hy hk
      refine ⟨valV us k, .inr ⟨us, k, b, .inl h1, eb, S.bh _ _ hb, rfl⟩, ?_⟩
      rw [← e]
      exact val_ok h2
theorem pe_or {t1 t2 : TE} (h1 : PE X e t1) (h2 : PE X e t2) : PE X e (fun s H Q => t1 s H Q ∨ t2 s H Q) := ⟨fun pins s σ H Q I h => h.elim (h1.run pins s σ H Q I) (h2.run pins s σ H Q I)⟩
theorem pt_or {t1 t2 : TT} (h1 : PT X e t1) (h2 : PT X e t2) : PT X e (fun s H Q => t1 s H Q ∨ t2 s H Q) := ⟨fun pins s σ H Q I h => h.elim (h1.run pins s σ H Q I) (h2.run pins s σ H Q I)⟩
theorem pd_or2 {d1 d2 : DE} (h1 : PD ρ X e d1) (h2 : PD ρ X e d2) : PD ρ X e (fun g k => d1 g k ∨ d2 g k) := pe_imp (pe_or h1 h2) fun s H Q ⟨F, g, tm, k, B, al, S, hk, q⟩ => hk.elim (fun h => .inl ⟨F, g, tm, k, B, al, S, h, q⟩) (fun h => .inr ⟨F, g, tm, k, B, al, S, h, q⟩)
theorem pdt_or2 {d1 d2 : DT} (h1 : PDT ρ X e d1) (h2 : PDT ρ X e d2) : PDT ρ X e (fun g k => d1 g k ∨ d2 g k) := pt_imp (pt_or h1 h2) fun s H Q ⟨F, g, tm, k, B, al, S, hk, q⟩ => hk.elim (fun h => .inl ⟨F, g, tm, k, B, al, S, h, q⟩) (fun h => .inr ⟨F, g, tm, k, B, al, S, h, q⟩)
/-- an operation by two rules -/
theorem rd_op2 {op : Op2} {d1 d2 : D2} (h : ∀ r1 r2 g r, op g r1 r2 = some r → (∀ k : R → G → Prop, k r g → d1 r1 r2 g k) ∨ (∀ k : R → G → Prop, k r g → d2 r1 r2 g k)) : ∀ g k, rd dx (fOp op f1 f2) g k → dOp d1 (rd dx f1) (rd dx f2) g k ∨ dOp d2 (rd dx f1) (rd dx f2) g k := fun g k hk => by
  unfold rd fOp at hk
  unfold dOp rd
  cases e1 : f1 g with
  | no => rw [e1] at hk; exact hk.elim
  | ex n g => rw [e1] at hk; exact .inl hk
  | ok r1 g1 =>
    rw [e1] at hk
    simp only [bind_ok] at hk
    show ((f2 g1).go dx fun r2 g2 => d1 r1 r2 g2 k) ∨ ((f2 g1).go dx fun r2 g2 => d2 r1 r2 g2 k)
    cases e2 : f2 g1 with
    | no => rw [e2] at hk; exact hk.elim
    | ex n g => rw [e2] at hk; exact .inl hk
    | ok r2 g2 =>
      rw [e2] at hk
      simp only [bind_ok] at hk
      obtain ⟨r, e, hr⟩ := go_ofO hk
      rcases h r1 r2 g2 r e with z | z
      · exact .inl (z k hr)
      · exact .inr (z k hr)
def oIxD : D2 := fun r1 r2 g k => ∃ ct key x, dictAt g r1 = some ct ∧ r2 = .d key ∧ dGet ct key = some (some x) ∧ k (.d x) g
theorem pd_ixD (hu : X.A.units + 1 < cLine) {da db : DE} (ha : PD ρ X a da) (hb : PD ρ X b db) (hs : PlainIx b := by intro _ _; rfl) : PD ρ X (.Subscript a b pos) (dOp oIxD da db) := pe_imp (pe_dget hu ha hb hs) fun s H Q ⟨F, g, tm, k, B, al, S, hk, q⟩ =>
  ⟨F, g, tm, _, B, al, S, hk, fun x H1 r1 g1 B1 al1 hk1 S1 => ⟨F, g1, (x, r1) :: tm, _, B1, al1, S1, hk1, fun y H2 r2 g2 B2 al2 ⟨ct, key, xd, e1, e2, e3, hk2⟩ S2 => by
    subst e2
    obtain ⟨p, e0, _, hc⟩ := S2.dict (S2.tm (x, r1) (by simp)) e1
    have e0 : x = .ref p := e0
    subst e0
    obtain ⟨ov, h1, v, h2, h3⟩ := dget_ok S2 hc (S2.tm (y, R.d key) (by simp)) e3
    subst h2
    exact ⟨p, v, rfl, h1, q v H2 _ g2 B2 al2 hk2 ((S2.temps (tm' := tm) fun p hp => List.mem_cons_of_mem _ (List.mem_cons_of_mem _ hp)).push h3)⟩⟩⟩
theorem q_ix (hu : X.A.units + 1 < cLine) (ha : PF ρ X dx a f1) (hb : PF ρ X dx b f2) (hs : PlainIx b := by intro _ _; rfl) : PF ρ X dx (.Subscript a b pos) (fOp opIx f1 f2) := pd_mono (pd_or2 (pd_ix ha hb hs) (pd_ixD hu ha hb hs)) (rd_op2 fun r1 r2 g r e => by
  unfold opIx at e
  split at e
  · rename_i key
    split at e
    · rename_i ct hct
      split at e
      · rename_i x hx; cases e; exact .inr fun k hk => ⟨ct, key, x, hct, rfl, hx, hk⟩
      · cases e
    · split at e
      · rename_i i
        split at e
        · rename_i t ds hs
          cases ha : atI ds i with
          | none => rw [ha] at e; cases e
          | some x => rw [ha] at e; cases e; exact .inl fun k hk => ⟨t, ds, i, x, hs, rfl, ha, hk⟩
        · cases e
      · cases e
  · cases e)
def oInDt (neg : Bool) : D2 := fun r1 r2 g k => ∃ ct key o, dictAt g r2 = some ct ∧ r1 = .d key ∧ dGet ct key = some o ∧ k (.d (.bool (if neg then !o.isSome else o.isSome))) g
def oInL (neg : Bool) : D2 := fun r1 r2 g k => ∃ d ds, datOf g r1 = some d ∧ datOf g r2 = some (.list ds) ∧ SeqAt.shaped d = true ∧ SeqAt.shaped (.list ds) = true ∧ k (.d (.bool (if neg then !(ds.any fun z => PyData.eqv z d) else ds.any fun z => PyData.eqv z d))) g
theorem isSome_ok {B : Hp} {ov : Option V} {o : Option PyData} (h : OvOk B ov o) : ov.isSome = o.isSome := by
  cases o with
  | none => rw [show ov = none from h]; rfl
  | some x => obtain ⟨v, e, _⟩ := h; rw [e]; rfl
theorem ref_notInDt {K : KR} {da db : DE} : ∀ s H Q, lift K (dOp (oInDt true) da db) s H Q → tDNotIn (lift K da) (lift K db) s H Q := fun s H Q ⟨F, g, tm, k, B, al, S, hk, q⟩ =>
  ⟨F, g, tm, _, B, al, S, hk, fun x H1 r1 g1 B1 al1 hk1 S1 => ⟨F, g1, (x, r1) :: tm, _, B1, al1, S1, hk1, fun y H2 r2 g2 B2 al2 ⟨ct, key, o, e1, e2, e3, hk2⟩ S2 => by
    subst e2
    obtain ⟨p, e0, _, hc⟩ := S2.dict (S2.tm (y, r2) (by simp)) e1
    have e0 : y = .ref p := e0
    subst e0
    obtain ⟨ov, h1, h2⟩ := dget_ok S2 hc (S2.tm (x, R.d key) (by simp)) e3
    refine ⟨p, ov, rfl, h1, ?_⟩
    rw [isSome_ok h2]
    exact q _ H2 _ g2 B2 al2 hk2 ((S2.temps (tm' := tm) fun p hp => List.mem_cons_of_mem _ (List.mem_cons_of_mem _ hp)).push (.bl _))⟩⟩
theorem ref_notInL {K : KR} : RefOp K (rNotInD K.fr) (oInL true) := by
  rintro F g tm s H B al x y r1 r2 k Q S hx hy ⟨d, ds, e1, e2, s1, s2, hk⟩ q
  exact ⟨d, ds, S.dat hx e1, S.dat hy e2, s1, s2, q _ H _ g B al hk S (Dq.bl _)⟩
theorem inB_says {g : G} {r1 r2 : R} {b : Bool} (e : inB g r1 r2 = some b) : (∃ ct key o, dictAt g r2 = some ct ∧ r1 = .d key ∧ dGet ct key = some o ∧ b = o.isSome) ∨
    (∃ d ds, datOf g r1 = some d ∧ datOf g r2 = some (.list ds) ∧ SeqAt.shaped d = true ∧ SeqAt.shaped (.list ds) = true ∧ b = ds.any fun z => PyData.eqv z d) ∨ ∃ (i : Int) (t : Bool) (ns : List Int), r1 = .d (.int i) ∧ seqOf g r2 = some (t, ns.map .int) ∧ b = decide (i ∈ ns) := by
  unfold inB at e
  split at e
  · rename_i ct hct
    split at e
    · rename_i key
      cases hd : dGet ct key with
      | none => rw [hd] at e; cases e
      | some o => rw [hd] at e; cases e; exact .inl ⟨ct, key, o, hct, rfl, hd, rfl⟩
    · cases e
  · split at e
    · rename_i ds hds
      split at e
      · rename_i d hd
        split at e
        · rename_i hc
          simp only [Bool.and_eq_true] at hc
          cases e
          exact .inr (.inl ⟨d, ds, hd, hds, hc.1, hc.2, rfl⟩)
        · cases e
      · cases e
    · split at e
      · rename_i i
        split at e
        · rename_i t ds hs
          cases ha : asInts ds with
          | none => rw [ha] at e; cases e
          | some ns => rw [ha] at e; cases e; rw [asInts_eq ha] at hs; exact .inr (.inr ⟨i, t, ns, rfl, hs, rfl⟩)
        · cases e
      · cases e
theorem in_says (neg : Bool) (op : Op2) (hop : ∀ g r1 r2, op g r1 r2 = (inB g r1 r2).map fun b => .d (.bool (if neg then !b else b))) (r1 r2 : R) (g : G) (r : R) (e : op g r1 r2 = some r) :
    (∀ k : R → G → Prop, k r g → (fun a b g k => oInL neg a b g k ∨ (if neg then oNotIn else oIn) a b g k) r1 r2 g k) ∨ (∀ k : R → G → Prop, k r g → oInDt neg r1 r2 g k) := by
  rw [hop] at e
  cases hi : inB g r1 r2 with
  | none => rw [hi] at e; cases e
  | some b =>
    rw [hi] at e
    cases e
    rcases inB_says hi with ⟨ct, key, o, h1, h2, h3, rfl⟩ | ⟨d, ds, h1, h2, h3, h4, rfl⟩ | ⟨i, t, ns, h1, h2, rfl⟩
    · exact .inr fun k hk => ⟨ct, key, o, h1, h2, h3, hk⟩
    · exact .inl fun k hk => .inl ⟨d, ds, h1, h2, h3, h4, hk⟩
    · refine .inl fun k hk => .inr ?_
      cases neg with
      | true => exact ⟨i, t, ns, h1, h2, hk⟩
      | false => exact ⟨i, t, ns, h1, h2, hk⟩
/-- a comparison by its value, as a test -/
theorem tst_of {op : CmpOp} {de : DE} {t : TE} (h : PC X op a b t) (h1 : behindInMarks op b = false) (i : ∀ s H Q, lift ⟨X.K, ρ⟩ de s H Q → t s H Q) : PDT ρ X (.Compare a [op] [b] pos) (dTst de) := pt_imp (pt_cmp h h1) fun s H Q hq => i s H _ (by
  obtain ⟨F, g, tm, k, B, al, S, hk, q⟩ := hq
  exact ⟨F, g, tm, _, B, al, S, hk, fun v H1 r g1 B1 al1 ⟨c, e, hk1⟩ S1 => by
    subst e
    cases dq_bool (S1.top rfl)
    exact ⟨c, rfl, q c H1 g1 B1 al1 hk1 (S1.temps fun p hp => List.mem_cons_of_mem _ hp)⟩⟩)
theorem rd_top2 {op : Op2} {d1 d2 : D2} (h : ∀ r1 r2 g r, op g r1 r2 = some r → (∀ k : R → G → Prop, k r g → d1 r1 r2 g k) ∨ (∀ k : R → G → Prop, k r g → d2 r1 r2 g k)) : ∀ g k, rd dx (fTst (fOp op f1 f2)) g k → dTst (dOp d1 (rd dx f1) (rd dx f2)) g k ∨ dTst (dOp d2 (rd dx f1) (rd dx f2)) g k := fun g k hk => rd_op2 h g _ (rd_tst g k hk)
theorem q_gt (ha : PF ρ X dx a f1) (hb : PF ρ X dx b f2) : PF ρ X dx (.Compare a [.Gt] [b] pos) (fOp opGt f1 f2) := pd_mono (pd_gt ha hb) (rd_op says_gt)
theorem q_ge (ha : PF ρ X dx a f1) (hb : PF ρ X dx b f2) : PF ρ X dx (.Compare a [.GtE] [b] pos) (fOp opGe f1 f2) := pd_mono (pd_ge ha hb) (rd_op says_ge)
theorem q_eq (hu : X.A.units + 64 < cLine) (ha : PF ρ X dx a f1) (hb : PF ρ X dx b f2) : PF ρ X dx (.Compare a [.Eq] [b] pos) (fOp opEq f1 f2) := pd_mono (pd_eq hu ha hb) (rd_op says_eq)
theorem q_isN (ha : PF ρ X dx a f1) (hb : PF ρ X dx b f2) : PF ρ X dx (.Compare a [.Is] [b] pos) (fOp opIsN f1 f2) := pd_mono (pd_cmp op_isN (nomark _) ref_isR ha hb) (rd_op says_isN)
theorem qt_lt (ha : PF ρ X dx a f1) (hb : PF ρ X dx b f2) : PFT ρ X dx (.Compare a [.Lt] [b] pos) (fTst (fOp opLt f1 f2)) := pdt_mono (pdt_lt ha hb) (rd_tstop says_lt)
theorem qt_le (ha : PF ρ X dx a f1) (hb : PF ρ X dx b f2) : PFT ρ X dx (.Compare a [.LtE] [b] pos) (fTst (fOp opLe f1 f2)) := pdt_mono (pdt_le ha hb) (rd_tstop says_le)
theorem qt_gt (ha : PF ρ X dx a f1) (hb : PF ρ X dx b f2) : PFT ρ X dx (.Compare a [.Gt] [b] pos) (fTst (fOp opGt f1 f2)) := pdt_mono (pdt_gt ha hb) (rd_tstop says_gt)
theorem qt_ge (ha : PF ρ X dx a f1) (hb : PF ρ X dx b f2) : PFT ρ X dx (.Compare a [.GtE] [b] pos) (fTst (fOp opGe f1 f2)) := pdt_mono (pdt_ge ha hb) (rd_tstop says_ge)
theorem qt_eq (hu : X.A.units + 64 < cLine) (ha : PF ρ X dx a f1) (hb : PF ρ X dx b f2) : PFT ρ X dx (.Compare a [.Eq] [b] pos) (fTst (fOp opEq f1 f2)) := pdt_mono (pdt_eq hu ha hb) (rd_tstop says_eq)
theorem qt_ne (hu : X.A.units + 64 < cLine) (ha : PF ρ X dx a f1) (hb : PF ρ X dx b f2) : PFT ρ X dx (.Compare a [.NotEq] [b] pos) (fTst (fOp opNe f1 f2)) := pdt_mono (pdt_ne hu ha hb) (rd_tstop says_ne)
theorem qt_isN (ha : PF ρ X dx a f1) (hb : PF ρ X dx b f2) : PFT ρ X dx (.Compare a [.Is] [b] pos) (fTst (fOp opIsN f1 f2)) := pdt_mono (pdt_cmp op_isN (nomark _) ref_isR ha hb) (rd_tstop says_isN)
theorem qt_notIn (hu : X.A.units + 65 < cLine) (ha : PF ρ X dx a f1) (hb : PF ρ X dx b f2) (hm : behindInMarks .NotIn b = false := by rfl) : PFT ρ X dx (.Compare a [.NotIn] [b] pos) (fTst (fOp opNotIn f1 f2)) := pdt_mono (pdt_or2 (pdt_cmp (OpR.or (op_notInD hu) op_notIn_seq) hm (RefOp.or ref_notInL ref_notIn) ha hb) (tst_of (pc_dnotin (by omega) ha hb) hm ref_notInDt)) (rd_top2 (in_says true opNotIn fun _ _ _ => rfl))
theorem qt_val (h : PF ρ X dx e f) (he : ∀ whole, isTrue e X.env whole = (do let v ← whole; standAt e.pos; holding [v] (truthy v)) := by intro _; rfl) : PFT ρ X dx e (fTst f) := pdt_mono (pdt_val h he) rd_tst
theorem rd_chain {o1 o2 : Op2} {d1 d2 : D2} (h1 : Says o1 d1) (h2 : Says o2 d2) : ∀ g k, rd dx (fChain o1 o2 f1 f2 f3) g k → dChain d1 d2 (rd dx f1) (rd dx f2) (rd dx f3) g k := fun g k hk => by
  refine go_mono (go_bind.mp hk) fun r1 g1 a1 => go_mono (go_bind.mp a1) fun r2 g2 a2 => ?_
  split at a2
  · rename_i c ec
    refine h1 r1 r2 g2 _ _ ec ⟨c, rfl, ?_⟩
    cases c with
    | true =>
      rw [if_pos rfl]
      rw [if_pos rfl] at a2
      refine go_mono (go_bind.mp a2) fun r4 g4 a4 => ?_
      obtain ⟨r, e, hr⟩ := go_ofO a4
      exact h2 r2 r4 g4 k r e hr
    | false =>
      rw [if_neg Bool.false_ne_true]
      rw [if_neg Bool.false_ne_true] at a2
      exact a2
  · exact a2.elim
theorem rd_tchain {o1 o2 : Op2} {d1 d2 : D2} (h1 : Says o1 d1) (h2 : Says o2 d2) : ∀ g k, rd dx (fTst (fChain o1 o2 f1 f2 f3)) g k → dTst (dChain d1 d2 (rd dx f1) (rd dx f2) (rd dx f3)) g k := fun g k hk => rd_chain h1 h2 g _ (rd_tst g k hk)
theorem qt_lele (ha : PF ρ X dx a f1) (hb : PF ρ X dx b f2) (hc : PF ρ X dx c f3) (hm : lastMarks [.LtE, .LtE] [b, c] = false := by with_unfolding_all rfl) : PFT ρ X dx (.Compare a [.LtE, .LtE] [b, c] pos) (fTst (fChain opLe opLe f1 f2 f3)) := pdt_mono (pdt_lele ha hb hc hm) (rd_tchain says_le says_le)
theorem q_one {op} (h : PF ρ X dx a f) : PF ρ X dx (.BoolOp op [a] pos) f := pd_one h
theorem q_and {rest : List Expr} (ha : PF ρ X dx a f1) (hb : PF ρ X dx (.BoolOp .And (b :: rest) pos) f2) : PF ρ X dx (.BoolOp .And (a :: b :: rest) pos) (fAnd f1 f2) := pd_mono (pd_and ha hb) fun g k h => by
  refine go_mono (go_bind.mp h) fun r g1 h1 => ?_
  split at h1
  · rename_i c
    refine ⟨c, rfl, ?_⟩
    cases c <;> exact h1
  · exact h1.elim
theorem q_not (ha : PF ρ X dx a f) : PF ρ X dx (.UnaryOp .Not a pos) (fNot f) := pd_mono (pd_not ha) fun g k h => by
  refine go_mono (go_bind.mp h) fun r g1 h1 => ?_
  split at h1
  · exact ⟨_, rfl, h1⟩
  · exact h1.elim
theorem qw_and1 (h : PFT ρ X dx a t) : PFW ρ X dx (.BoolOp .And [a] pos) t := pdw_and1 h
theorem qw_or1 (h : PFT ρ X dx a t) : PFW ρ X dx (.BoolOp .Or [a] pos) t := pdw_or1 h
theorem qw_and {rest : List Expr} (ha : PFT ρ X dx a t) (hb : PFW ρ X dx (.BoolOp .And (b :: rest) pos) u) : PFW ρ X dx (.BoolOp .And (a :: b :: rest) pos) (fAndT t u) := pdw_mono (pdw_and ha hb) fun g k h => by
  refine go_mono (go_bind.mp h) fun c g1 h1 => ?_
  cases c <;> exact h1
theorem qw_or {rest : List Expr} (ha : PFT ρ X dx a t) (hb : PFW ρ X dx (.BoolOp .Or (b :: rest) pos) u) : PFW ρ X dx (.BoolOp .Or (a :: b :: rest) pos) (fOrT t u) := pdw_mono (pdw_or ha hb) fun g k h => by
  refine go_mono (go_bind.mp h) fun c g1 h1 => ?_
  cases c <;> exact h1
theorem qt_w (h : PFW ρ X dx e t) : PFT ρ X dx e t := pdt_w h
theorem qt_not (h : PFT ρ X dx a t) : PFT ρ X dx (.UnaryOp .Not a pos) (fNotT t) := pdt_mono (pdt_not h) fun g k h => go_mono (go_bind.mp h) fun c g1 h1 => h1
theorem q_if (hc : PFT ρ X dx c t) (ha : PF ρ X dx a f1) (hb : PF ρ X dx b f2) : PF ρ X dx (.IfExp c a b pos) (fIf t f1 f2) := pd_mono (pd_if hc ha hb) fun g k h => by
  refine go_mono (go_bind.mp h) fun c g1 h1 => ?_
  cases c <;> exact h1
theorem qts_nil : PFTs ρ X dx [] fYes := pdts_mono pdts_nil fun _ _ h => h
theorem qts_one (h : PFT ρ X dx c t) : PFTs ρ X dx [c] t := pdts_one h
theorem qa_nil : PFA ρ X dx [] fNil := pda_mono pda_nil fun _ _ h => h
theorem qa_cons (ha : PF ρ X dx e f) (hr : PFA ρ X dx es fs) (hs : starEach (e :: es) X.env = (false, eval e X.env) :: starEach es X.env := by rfl) : PFA ρ X dx (e :: es) (fCons f fs) := pda_mono (pda_cons ha hr hs) fun g k h =>
  go_mono (go_bind.mp h) fun r g1 h1 => go_mono (go_bind.mp h1) fun rs g2 h2 => h2
theorem q_tup {x1 : Nat} (h : PFA ρ X dx es fs) : PF ρ X dx (.Tuple es x1 pos) (fTup fs) := pd_mono (pd_tup h) fun g k h => go_mono (go_bind.mp h) fun rs g1 h1 => by
  split at h1
  · rename_i ds e
    split at h1
    · rename_i hl; exact ⟨ds, asData_eq e, hl, h1⟩
    · exact h1.elim
  · exact h1.elim
theorem q_lst (h : PFA ρ X dx es fs) : PF ρ X dx (.List es pos) (fLst fs) := pd_mono (pd_lst h) fun g k h => go_mono (go_bind.mp h) fun rs g1 h1 => by
  split at h1
  · rename_i ds e
    split at h1
    · rename_i hl; exact ⟨ds, asData_eq e, hl, h1⟩
    · exact h1.elim
  · exact h1.elim
theorem q_lstO (h : PFA ρ X dx es fs) : PF ρ X dx (.List es pos) (fLstO fs) := pd_mono (pd_lstO h) fun g k h => go_mono (go_bind.mp h) fun rs g1 h1 => by
  split at h1
  · rename_i ds e
    split at h1
    · rename_i hl; exact ⟨ds, asData_eq e, hl, h1⟩
    · exact h1.elim
  · exact h1.elim
theorem q_dict0 : PF ρ X dx (.Dict [] [] pos) fDict0 := pd_mono pd_dict0 fun g k h => h
theorem qo_none : PFO ρ X dx none fNoP := pdo_mono pdo_none fun _ _ h => h
theorem qo_some (h : PF ρ X dx e f) : PFO ρ X dx (some e) (fPart f) := pdo_mono (pdo_some h) fun g k h => go_mono (go_bind.mp h) fun r g1 h1 => by
  split at h1
  · exact ⟨_, rfl, h1⟩
  · exact h1.elim
theorem q_sl {fl fh : FO} {lo hi : Option Expr} {p2 : Pos} (he : PF ρ X dx e f) (hl : PFO ρ X dx lo fl) (hh : PFO ρ X dx hi fh) : PF ρ X dx (.Subscript e (.Slice lo hi none p2) pos) (fSl f fl fh) := pd_mono (pd_sl he hl hh) fun g k h =>
  go_mono (go_bind.mp h) fun r g1 h1 => go_mono (go_bind.mp h1) fun lo g2 h2 => go_mono (go_bind.mp h2) fun hi g3 h3 => by
    split at h3
    · rename_i t ds e; exact ⟨t, ds, e, h3⟩
    · exact h3.elim
def SaysC (c : Cl) (dr : DCl) : Prop := ∀ rs g k r, c g rs = some r → k r g → dr rs g k
theorem rd_cl {c : Cl} {dr : DCl} (h : SaysC c dr) : ∀ g k, rd dx (fCl c fs) g k → dCall dr (rd dx fs) g k := fun g k hk => go_mono (go_bind.mp hk) fun rs g1 h1 => by
  obtain ⟨r, e, hr⟩ := go_ofO h1
  exact h rs g1 k r e hr
theorem sc_len : SaysC clLen cLen := fun rs g k r e hk => by
  unfold clLen at e
  split at e
  · split at e
    · rename_i t ds hs; cases e; exact ⟨_, t, ds, rfl, hs, hk⟩
    · cases e
  · cases e
theorem sc_abs : SaysC clAbs cAbs := fun rs g k r e hk => by
  unfold clAbs at e
  split at e
  · cases e; exact ⟨_, rfl, hk⟩
  · cases e
theorem sc_max : SaysC clMax cMax2 := fun rs g k r e hk => by
  unfold clMax at e
  split at e
  · cases e; exact ⟨_, _, rfl, hk⟩
  · cases e
theorem sc_min : SaysC clMin cMin2 := fun rs g k r e hk => by
  unfold clMin at e
  split at e
  · cases e; exact ⟨_, _, rfl, hk⟩
  · cases e
theorem sc_int : SaysC clInt cIntB := fun rs g k r e hk => by
  unfold clInt at e
  split at e
  · cases e; exact ⟨_, rfl, hk⟩
  · cases e
theorem sc_list : SaysC clList cList := fun rs g k r e hk => by
  unfold clList at e
  split at e
  · split at e
    · rename_i t ds hs; cases e; exact ⟨_, t, ds, rfl, hs, hk⟩
    · cases e
  · cases e
theorem sc_tuple : SaysC clTuple cTuple := fun rs g k r e hk => by
  unfold clTuple at e
  split at e
  · split at e
    · rename_i t ds hs; cases e; exact ⟨_, t, ds, rfl, hs, hk⟩
    · cases e
  · cases e
theorem sc_all : SaysC clAll cAll := fun rs g k r e hk => by
  unfold clAll at e
  split at e
  · split at e
    · rename_i ds hs
      cases ha : asBools ds with
      | none => rw [ha] at e; cases e
      | some bs => rw [ha] at e; cases e; rw [asBools_eq ha] at hs; exact ⟨_, bs, rfl, hs, hk⟩
    · cases e
  · cases e
theorem sc_sum : SaysC clSum cSum := fun rs g k r e hk => by
  unfold clSum at e
  split at e
  · split at e
    · rename_i ds hs
      cases ha : asInts ds with
      | none => rw [ha] at e; cases e
      | some bs => rw [ha] at e; cases e; rw [asInts_eq ha] at hs; exact ⟨_, bs, rfl, hs, hk⟩
    · cases e
  · cases e
theorem rd_cl2 {c : Cl} {d1 d2 : DCl} (h : ∀ rs g r, c g rs = some r → (∀ k : R → G → Prop, k r g → d1 rs g k) ∨ (∀ k : R → G → Prop, k r g → d2 rs g k)) : ∀ g k, rd dx (fCl c fs) g k → dCall d1 (rd dx fs) g k ∨ dCall d2 (rd dx fs) g k := fun g k hk => by
  unfold rd fCl at hk
  unfold dCall rd
  cases e1 : fs g with
  | no => rw [e1] at hk; exact hk.elim
  | ex n g => rw [e1] at hk; exact .inl hk
  | ok rs g1 =>
    rw [e1] at hk
    obtain ⟨r, e, hr⟩ := go_ofO hk
    rcases h rs g1 r e with z | z
    · exact .inl (z k hr)
    · exact .inr (z k hr)
def cSortedDt : DCl := fun rs g k => ∃ r kvs ks, rs = [r] ∧ dictAt g r = some (.dK kvs) ∧ asKeys kvs = some ks ∧ ks.length < 64 ∧ k (.d (.list ((srt ks).map .int))) g
theorem sorted_says (rs : List R) (g : G) (r : R) (e : clSorted g rs = some r) : (∀ k : R → G → Prop, k r g → cSorted rs g k) ∨ (∀ k : R → G → Prop, k r g → cSortedDt rs g k) := by
  unfold clSorted at e
  split at e
  · split at e
    · rename_i kvs hd
      split at e
      · rename_i ks ha
        split at e
        · rename_i hl; cases e; exact .inr fun k hk => ⟨_, kvs, ks, rfl, hd, ha, hl, hk⟩
        · cases e
      · cases e
    · cases e
    · split at e
      · rename_i t ds hs
        cases ha : asInts ds with
        | none => rw [ha] at e; cases e
        | some bs => rw [ha] at e; cases e; rw [asInts_eq ha] at hs; exact .inl fun k hk => ⟨_, t, bs, rfl, hs, hk⟩
      · cases e
  · cases e
theorem pd_sortedDt {p : Pos} {da : DA} (hc : X.calm = true) (hg : Gl X "sorted") (hm : X.mg "sorted" = none) (ha : PDA ρ X (e :: es) da) (he : starEach (e :: es) X.env = (false, eval e X.env) :: starEach es X.env := by rfl) (hpl : (backTo pos (starEach es X.env)).any (·.1) = false := by rfl) :
    PD ρ X (.Call (.Name "sorted" p) (e :: es) [] pos) (dCall cSortedDt da) := pd_callB (call_sortedDI hc) (by
      rintro F g tm s H B al vs rs k Q S pr ⟨r, kvs, ks, rfl, hd, hk, hl, hk2⟩ q
      obtain ⟨v, rfl, hv⟩ := pair1 pr
      obtain ⟨a, rfl, _, us, h1, h2⟩ := S.dict hv hd
      refine ⟨a, us, ks, rfl, .inl h1, (keys_ok h2).trans (asKeys_eq hk), hl, fun ys p hp hs hn => ?_⟩
      rw [srt_eq hp hs]
      exact new_l S hn (dqall_mkints _) hk2 q) hg hm boot_sorted ha (by decide) (by decide) he hpl
section
variable {p : Pos} (hc : X.calm = true)
theorem q_len (hc : X.calm = true) (hg : Gl X "len") (hm : X.mg "len" = none) (ha : PFA ρ X dx (e :: es) fs) (he : starEach (e :: es) X.env = (false, eval e X.env) :: starEach es X.env := by rfl) (hpl : (backTo pos (starEach es X.env)).any (·.1) = false := by rfl) : PF ρ X dx (.Call (.Name "len" p) (e :: es) [] pos) (fCl clLen fs) := pd_mono (pd_len hc hg hm ha he hpl) (rd_cl sc_len)
theorem q_abs (hc : X.calm = true) (hg : Gl X "abs") (hm : X.mg "abs" = none) (ha : PFA ρ X dx (e :: es) fs) (he : starEach (e :: es) X.env = (false, eval e X.env) :: starEach es X.env := by rfl) (hpl : (backTo pos (starEach es X.env)).any (·.1) = false := by rfl) : PF ρ X dx (.Call (.Name "abs" p) (e :: es) [] pos) (fCl clAbs fs) := pd_mono (pd_abs hc hg hm ha he hpl) (rd_cl sc_abs)
theorem q_max (hc : X.calm = true) (hg : Gl X "max") (hm : X.mg "max" = none) (ha : PFA ρ X dx (e :: es) fs) (he : starEach (e :: es) X.env = (false, eval e X.env) :: starEach es X.env := by rfl) (hpl : (backTo pos (starEach es X.env)).any (·.1) = false := by rfl) : PF ρ X dx (.Call (.Name "max" p) (e :: es) [] pos) (fCl clMax fs) := pd_mono (pd_max2 hc hg hm ha he hpl) (rd_cl sc_max)
theorem q_min (hc : X.calm = true) (hg : Gl X "min") (hm : X.mg "min" = none) (ha : PFA ρ X dx (e :: es) fs) (he : starEach (e :: es) X.env = (false, eval e X.env) :: starEach es X.env := by rfl) (hpl : (backTo pos (starEach es X.env)).any (·.1) = false := by rfl) : PF ρ X dx (.Call (.Name "min" p) (e :: es) [] pos) (fCl clMin fs) := pd_mono (pd_min2 hc hg hm ha he hpl) (rd_cl sc_min)
theorem q_intB (hc : X.calm = true) (hg : Gl X "int") (hm : X.mg "int" = none) (ha : PFA ρ X dx (e :: es) fs) (he : starEach (e :: es) X.env = (false, eval e X.env) :: starEach es X.env := by rfl) (hpl : (backTo pos (starEach es X.env)).any (·.1) = false := by rfl) : PF ρ X dx (.Call (.Name "int" p) (e :: es) [] pos) (fCl clInt fs) := pd_mono (pd_int1 hc hg hm ha he hpl) (rd_cl sc_int)
theorem q_list (hc : X.calm = true) (hg : Gl X "list") (hm : X.mg "list" = none) (ha : PFA ρ X dx (e :: es) fs) (he : starEach (e :: es) X.env = (false, eval e X.env) :: starEach es X.env := by rfl) (hpl : (backTo pos (starEach es X.env)).any (·.1) = false := by rfl) : PF ρ X dx (.Call (.Name "list" p) (e :: es) [] pos) (fCl clList fs) := pd_mono (pd_list1 hc hg hm ha he hpl) (rd_cl sc_list)
theorem q_tuple (hc : X.calm = true) (hg : Gl X "tuple") (hm : X.mg "tuple" = none) (ha : PFA ρ X dx (e :: es) fs) (he : starEach (e :: es) X.env = (false, eval e X.env) :: starEach es X.env := by rfl) (hpl : (backTo pos (starEach es X.env)).any (·.1) = false := by rfl) : PF ρ X dx (.Call (.Name "tuple" p) (e :: es) [] pos) (fCl clTuple fs) := pd_mono (pd_tuple1 hc hg hm ha he hpl) (rd_cl sc_tuple)
theorem q_all (hc : X.calm = true) (hg : Gl X "all") (hm : X.mg "all" = none) (ha : PFA ρ X dx (e :: es) fs) (he : starEach (e :: es) X.env = (false, eval e X.env) :: starEach es X.env := by rfl) (hpl : (backTo pos (starEach es X.env)).any (·.1) = false := by rfl) : PF ρ X dx (.Call (.Name "all" p) (e :: es) [] pos) (fCl clAll fs) := pd_mono (pd_all1 hc hg hm ha he hpl) (rd_cl sc_all)
theorem q_sum (hc : X.calm = true) (hg : Gl X "sum") (hm : X.mg "sum" = none) (ha : PFA ρ X dx (e :: es) fs) (he : starEach (e :: es) X.env = (false, eval e X.env) :: starEach es X.env := by rfl) (hpl : (backTo pos (starEach es X.env)).any (·.1) = false := by rfl) : PF ρ X dx (.Call (.Name "sum" p) (e :: es) [] pos) (fCl clSum fs) := pd_mono (pd_sum1 hc hg hm ha he hpl) (rd_cl sc_sum)
theorem q_sorted (hc : X.calm = true) (hg : Gl X "sorted") (hm : X.mg "sorted" = none) (ha : PFA ρ X dx (e :: es) fs) (he : starEach (e :: es) X.env = (false, eval e X.env) :: starEach es X.env := by rfl) (hpl : (backTo pos (starEach es X.env)).any (·.1) = false := by rfl) : PF ρ X dx (.Call (.Name "sorted" p) (e :: es) [] pos) (fCl clSorted fs) := pd_mono (pd_or2 (pd_sorted hg hm ha he hpl) (pd_sortedDt hc hg hm ha he hpl)) (rd_cl2 sorted_says)
end
theorem q_isi {p p1 : Pos} {x : Str} {T : String} (hT : isTy T) (hg : Gl X "isinstance") (hm : X.mg "isinstance" = none) (hgT : Gl X x) (hmT : X.mg x = none) (hv : bootBuiltins x = some (.type T)) (he : PF ρ X dx e f) (hn : x ≠ "__name__" := by decide) (hd : (x == ("__debug__" : Str)) = false := by decide)
    (hs : starEach [e, .Name x p1] X.env = (false, eval e X.env) :: starEach [.Name x p1] X.env := by rfl) : PF ρ X dx (.Call (.Name "isinstance" p) [e, .Name x p1] [] pos) (fIsi T f) := pd_mono (pd_isi hT hg hm hgT hmT hv he hn hd hs) fun g k h => go_mono (go_bind.mp h) fun r g1 h1 => by
  split at h1
  · rename_i t ht; exact ⟨t, ht, h1⟩
  · exact h1.elim
theorem q_isi2 {p p1 p2 p3 : Pos} {x y : Str} {T U : String} {kt : Nat} (hT : isTy T) (hU : isTy U) (hg : Gl X "isinstance") (hm : X.mg "isinstance" = none) (hgT : Gl X x) (hmT : X.mg x = none) (hv : bootBuiltins x = some (.type T)) (hgU : Gl X y) (hmU : X.mg y = none) (hvU : bootBuiltins y = some (.type U)) (he : PF ρ X dx e f)
    (hn : x ≠ "__name__" := by decide) (hd : (x == ("__debug__" : Str)) = false := by decide) (hn' : y ≠ "__name__" := by decide) (hd' : (y == ("__debug__" : Str)) = false := by decide)
    (hs : starEach [e, .Tuple [.Name x p1, .Name y p2] kt p3] X.env = (false, eval e X.env) :: starEach [.Tuple [.Name x p1, .Name y p2] kt p3] X.env := by rfl) :
    PF ρ X dx (.Call (.Name "isinstance" p) [e, .Tuple [.Name x p1, .Name y p2] kt p3] [] pos) (fIsi2 T U f) := pd_mono (pd_isi2 hT hU hg hm hgT hmT hv hgU hmU hvU he hn hd hn' hd' hs) fun g k h => go_mono (go_bind.mp h) fun r g1 h1 => by
  split at h1
  · rename_i t ht; exact ⟨t, ht, h1⟩
  · exact h1.elim
end
end DL
set_option Elab.async false
set_option linter.all false
set_option maxRecDepth 100000
set_option maxHeartbeats 4000000
set_option autoImplicit false
namespace DL
open PySem PySem.Spec PyProof.Rows L2
section
variable {ρ : Root} {X : Cx} {dx : DX} {e a b c o tg : Expr} {es : List Expr} {pos : Pos} {f f1 f2 f3 : FE} {fs : FAr} {t u : FT}
def SaysM (m : Mt) (dm : DM) : Prop := ∀ r rs g k q g', m g r rs = some (q, g') → k q g' → dm r rs g k
theorem rd_mt {m : Mt} {dm : DM} (h : SaysM m dm) : ∀ g k, rd dx (fMt m f fs) g k → dMeth dm (rd dx f) (rd dx fs) g k := fun g k hk => go_mono (go_bind.mp hk) fun r g1 h1 => by
  split at h1
  · rename_i hl
    refine ⟨?_, go_mono (go_bind.mp h1) fun rs g2 h2 => ?_⟩
    · unfold isLst at hl
      split at hl
      · rename_i ds e; exact ⟨ds, e⟩
      · cases hl
    · cases hm : m g2 r rs with
      | none => rw [hm] at h2; exact h2.elim
      | some p => rw [hm] at h2; exact h r rs g2 k p.1 p.2 hm h2
  · exact h1.elim
theorem sm_append : SaysM mtAppend mAppend := fun r rs g k q g' e hk => by
  unfold mtAppend at e
  split at e
  · obtain ⟨j, ds, es, rfl, h1, h2, rfl⟩ := onL_eq e
    split at h2
    · rename_i hl; cases h2; exact ⟨j, ds, _, rfl, rfl, h1, hl, hk⟩
    · cases h2
  · cases e
theorem sm_index : SaysM mtIndex mIndex := fun r rs g k q g' e hk => by
  unfold mtIndex at e
  split at e
  · split at e
    · rename_i ds d e1 e2
      split at e
      · rename_i hc
        simp only [Bool.and_eq_true] at hc
        cases hf : ds.findIdx? (fun z => PyData.eqv z d) with
        | none => rw [hf] at e; cases e
        | some n => rw [hf] at e; cases e; exact ⟨ds, _, d, n, e1, rfl, e2, hc.1, hc.2, hf, hk⟩
      · cases e
    · cases e
  · cases e
section
variable {apos cpos : Pos}
theorem q_append (ho : PF ρ X dx o f) (ha : PFA ρ X dx (e :: es) fs)
    (hbase : attributeBase o "append" X.env (eval o X.env) = eval o X.env := by rfl)
    (hfew : ((backTo cpos (starEach (e :: es) X.env)).all (fun x => !x.1) && (backToKw cpos (keywordEach [] X.env)).all (fun x => x.1.isSome) && decide ((e :: es).length + ([] : List Keyword).length + (if ([] : List Keyword).isEmpty then 0 else 1) < 30)) = true := by rfl)
    (hline : (apos.endLine == cpos.line) = true := by rfl) (hs : starEach (e :: es) X.env = (false, eval e X.env) :: starEach es X.env := by rfl) (hplain : (backTo cpos (starEach es X.env)).any (·.1) = false := by rfl) :
    PF ρ X dx (.Call (.Attribute o "append" apos) (e :: es) [] cpos) (fMt mtAppend f fs) := pd_mono (pd_append ho ha hbase hfew hline hs hplain) (rd_mt sm_append)
theorem q_index (hu : X.A.units + 65 < cLine) (ho : PF ρ X dx o f) (ha : PFA ρ X dx (e :: es) fs)
    (hbase : attributeBase o "index" X.env (eval o X.env) = eval o X.env := by rfl)
    (hfew : ((backTo cpos (starEach (e :: es) X.env)).all (fun x => !x.1) && (backToKw cpos (keywordEach [] X.env)).all (fun x => x.1.isSome) && decide ((e :: es).length + ([] : List Keyword).length + (if ([] : List Keyword).isEmpty then 0 else 1) < 30)) = true := by rfl)
    (hline : (apos.endLine == cpos.line) = true := by rfl) (hs : starEach (e :: es) X.env = (false, eval e X.env) :: starEach es X.env := by rfl) (hplain : (backTo cpos (starEach es X.env)).any (·.1) = false := by rfl) :
    PF ρ X dx (.Call (.Attribute o "index" apos) (e :: es) [] cpos) (fMt mtIndex f fs) := pd_mono (pd_index hu ho ha hbase hfew hline hs hplain) (rd_mt sm_index)
end
theorem qg_name {ws : List Nat} (i : Nat) {x : Str} (hN : X.N.Nodup) (hw : i ∈ ws) (hi : X.N[i]? = some x) (hx : Loc X.env.scope x) (hf : X.fn x = true ∨ X.env.scope.names.lookup x = some .local := by first | exact .inl rfl | exact .inr rfl | assumption) : PFG ρ X dx ws (.Name x pos) (tN i) := pdg_mono (pdg_name i hN hw hi hx hf) fun _ _ _ h => h
theorem qgs_nil {ws : List Nat} : PFGs ρ X dx ws [] tNil := pdgs_mono pdgs_nil fun rs g k h => by
  cases rs with
  | nil => exact ⟨rfl, h⟩
  | cons r rs => exact absurd h id
theorem qgs_cons {ws : List Nat} {t : FG} {u : FGs} (h1 : PFG ρ X dx ws e t) (h2 : PFGs ρ X dx ws es u) (hs : (assignEach (e :: es) X.env).map (·.2) = assign e X.env :: (assignEach es X.env).map (·.2) := by rfl) : PFGs ρ X dx ws (e :: es) (tCons t u) := pdgs_mono (pdgs_cons h1 h2 hs) fun rs g k h => by
  cases rs with
  | nil => exact absurd h id
  | cons r rs => exact ⟨r, rs, rfl, go_mono (go_bind.mp h) fun _ g1 h1 => h1⟩
theorem qg_subL {ws : List Nat} {o i : Expr} (ho : PF ρ X dx o f1) (hi : PF ρ X dx i f2)
    (ha : ∀ v, assign (.Subscript o i pos) X.env v = (do
      let ov ← holding [v] (eval o X.env)
      let iv ← holding [v, ov] (eval i X.env)
      standAt pos
      holding [v, ov, iv] (setItem ov iv v)
      release [v, ov, iv] []) := by intro _; rfl) : PFG ρ X dx ws (.Subscript o i pos) (tSub f1 f2) := pdg_mono (pdg_subL ho hi ha) fun r g k h => go_mono (go_bind.mp h) fun r1 g1 h1 => go_mono (go_bind.mp h1) fun r2 g2 h2 => by
  split at h2
  · rename_i x i
    split at h2
    · rename_i q g3 hq
      obtain ⟨j, ds, es, rfl, e1, e2, rfl⟩ := onL_eq hq
      cases hn : ixN ds.length i with
      | none => rw [hn] at e2; cases e2
      | some n => rw [hn] at e2; cases e2; exact ⟨j, ds, i, n, x, rfl, e1, rfl, hn, rfl, h2⟩
    · exact h2.elim
  · exact h2.elim
end
section
variable {ρ : Root} {X : Cx} {dx : DX} {st : Stmt} {rest : List Stmt} {e c tg : Expr} {pos : Pos} {f : FE} {fs : FAr} {t : FT} {u v : FS}
theorem qss_nil : PFSs ρ X dx [] sNx := pdss_mono pdss_nil fun _ _ h => h
theorem rs_sq : ∀ E g, rS dx (sSq u v) E g → sSeq (rS dx u) (rS dx v) E g := fun E g h => go_mono (go_bind.mp h) fun fl g1 h1 => by
  cases fl <;> exact h1
theorem qss_cons (h1 : PFS ρ X dx st u) (h2 : PFSs ρ X dx rest v) : PFSs ρ X dx (st :: rest) (sSq u v) := pdss_mono (pdss_cons h1 h2) rs_sq
theorem qss_one (h1 : PFS ρ X dx st u) : PFSs ρ X dx [st] u := pdss_one h1
theorem qs_expr (he : PF ρ X dx e f) (hs : swapsWith e none pos.line X.env = pure false := by rfl) : PFS ρ X dx (.Expr e pos) (sEx f) := pds_mono (pds_expr he hs) fun E g h => go_mono (go_bind.mp h) fun _ _ h1 => h1
theorem qs_ret (he : PF ρ X dx e f) : PFS ρ X dx (.Return (some e) pos) (sRt f) := pds_mono (pds_ret he) fun E g h => go_mono (go_bind.mp h) fun _ _ h1 => h1
theorem qs_if {a b : List Stmt} (hc : PFT ρ X dx c t) (ha : PFSs ρ X dx a u) (hb : PFSs ρ X dx b v) : PFS ρ X dx (.If c a b pos) (sIte t u v) := pds_mono (pds_if hc ha hb) fun E g h => go_mono (go_bind.mp h) fun c g1 h1 => by
  cases c <;> exact h1
theorem rs_set {t : FG} : ∀ E g, rS dx (sSet f t) E g → sAsg (rd dx f) (rG dx t) E g := fun E g h => go_mono (go_bind.mp h) fun r g1 h1 => go_mono (go_bind.mp h1) fun _ g2 h2 => h2
theorem qs_asg {ws : List Nat} {t : FG} (he : PF ρ X dx e f) (hg : PFG ρ X dx ws tg t) (hs : swapsWithSole [tg] e pos.line X.env = pure false := by rfl) (hw : swappedStores [tg] e X.env = pure none := by rfl)
    (h1 : (assignEach [tg] X.env).map (·.2) = [assign tg X.env] := by rfl) : PFS ρ X dx (.Assign [tg] e pos) (sSet f t) := pds_mono (pds_asg he hg hs hw h1) rs_set
theorem qs_set {i : Nat} {x : Str} {pos' : Pos} (hN : X.N.Nodup) (hi : X.N[i]? = some x) (hx : Loc X.env.scope x) (he : PF ρ X dx e f) (hs : swapsWith e (some (.Name x pos')) pos.line X.env = pure false := by rfl)
    (hf : X.fn x = true ∨ X.env.scope.names.lookup x = some .local := by first | exact .inl rfl | exact .inr rfl | assumption) : PFS ρ X dx (.Assign [.Name x pos'] e pos) (sSet f (tN i)) := pds_mono (pds_set hN hi hx he hs hf) fun E g h => go_mono (go_bind.mp h) fun r g1 h1 => h1
theorem qs_par {i j : Nat} {x y : Str} {a b : Expr} {px py pt : Pos} {kt k2 pt2} (hc : X.calm = true) (hN : X.N.Nodup) (hi : X.N[i]? = some x) (hj : X.N[j]? = some y) (hij : i ≠ j)
    (hx : X.env.scope.names.lookup x = some .local) (hy : X.env.scope.names.lookup y = some .local) (ha : PFA ρ X dx [a, b] fs) (hw : swappedStores [.Tuple [.Name x px, .Name y py] kt pt] (.Tuple [a, b] k2 pt2) X.env = pure (some [x, y]))
    (hs : swapsWithSole [.Tuple [.Name x px, .Name y py] kt pt] (.Tuple [a, b] k2 pt2) pos.line X.env = pure false := by rfl) : PFS ρ X dx (.Assign [.Tuple [.Name x px, .Name y py] kt pt] (.Tuple [a, b] k2 pt2) pos) (sP2 i j fs) :=
  pds_mono (pds_par hc hN hi hj hij hx hy ha hw hs) fun E g h => go_mono (go_bind.mp h) fun rs g1 h1 => by
    split at h1
    · exact ⟨_, _, rfl, h1⟩
    · exact h1.elim
theorem qs_putD {o i value : Expr} {pos' : Pos} {fd fi fv : FE} (hu : X.A.units + 1 < cLine) (ho : PF ρ X dx o fd) (hi : PF ρ X dx i fi) (hv : PF ρ X dx value fv) (hs : swapsWith value (some (.Subscript o i pos')) pos.line X.env = pure false := by rfl) :
    PFS ρ X dx (.Assign [.Subscript o i pos'] value pos) (sPut fd fi fv) := ps_imp (ps_dput hu ho hi hv hs) fun D s H ⟨F, g, tm, E, B, al, S, h, ok⟩ =>
  ⟨F, g, tm, _, B, al, S, go_bind.mp h, fun v H1 rv g1 B1 al1 hk1 S1 => ⟨F, g1, (v, rv) :: tm, _, B1, al1, S1, go_bind.mp hk1, fun x H2 rdd g2 B2 al2 hk2 S2 => ⟨F, g2, (x, rdd) :: (v, rv) :: tm, _, B2, al2, S2, go_bind.mp hk2, fun y H3 ri g3 B3 al3 h3 S3 => by
    split at h3
    · rename_i xd j key
      split at h3
      · rename_i ct hct
        split at h3
        · rename_i ct' hp
          obtain ⟨p, hpa, ex⟩ := S3.tm (x, R.o j) (by simp)
          have ex : x = .ref p := ex
          subst ex
          have hy : Dq B3 y key := S3.top rfl
          have hv2 : Dq B3 v xd := S3.tm (v, R.d xd) (by simp)
          have hc := S3.ce j p _ hpa hct
          have T := S3.temps (tm' := tm) fun z hz => List.mem_cons_of_mem _ (List.mem_cons_of_mem _ (List.mem_cons_of_mem _ hz))
          cases ct with
          | dead => cases hp
          | lst ds => cases hp
          | dK kvs =>
            obtain ⟨us, h1, h2⟩ := hc
            simp only [dPut] at hp
            split at hp
            · rename_i hl
              cases hk : keyOf key with
              | none => rw [hk] at hp; cases hp
              | some k =>
                rw [hk] at hp
                cases hp
                refine ⟨p, _, rfl, .inl ⟨us, k, h1, key_ok hy hk, ?_, rfl⟩, ok.nx s _ _ B3 al3 h3 (T.put hpa hct (by simp) ⟨_, upd_same, put_okP hv2 h2⟩)⟩
                rw [Paired.length h2]
                exact sz_lt hl
            · cases hp
          | dN kvs => simp only [dPut] at hp; cases hp
          | dL kvs => simp only [dPut] at hp; cases hp
          | dF kvs => simp only [dPut] at hp; cases hp
          | dT kvs =>
            obtain ⟨us, h1, h2⟩ := hc
            simp only [dPut] at hp
            split at hp
            · rename_i hl
              cases hk : tkeyOf key with
              | none => rw [hk] at hp; cases hp
              | some k =>
                rw [hk] at hp
                cases hp
                obtain ⟨b, eb, hb⟩ := tkey_ok hy hk
                refine ⟨p, _, rfl, .inr ⟨us, k, b, h1, eb, S3.bh _ _ hb, ?_, rfl⟩, ok.nx s _ _ B3 al3 h3 (T.put hpa hct (by simp) ⟨_, upd_same, put_okP hv2 h2⟩)⟩
                rw [Paired.length h2]
                exact sz_lt hl
            · cases hp
        · exact h3.elim
      · exact h3.elim
    · exact h3.elim⟩⟩⟩
theorem qs_while {body : List Stmt} (hp : PassesOwn (model X.prog X.w) X.A X.env X.xe) (hc : PFT ρ X dx c t) (hb : PFSs ρ X dx body u) : PFS ρ X dx (.While c body [] pos) (sWh t u) := pds_mono (pds_while hp hc hb) fun E g h => by
  have hn : sWh t u g ≠ .no := fun z => by unfold rS at h; rw [z] at h; exact h
  obtain ⟨n, en⟩ := sWh_ex hn
  refine ⟨fun m g => (whGo t u m g).go dx (flK E), ⟨n, by show (whGo t u n g).go dx (flK E); rw [en]; exact h⟩, fun m g h => ?_⟩
  cases m with
  | zero => exact h.elim
  | succ m =>
    refine go_mono (go_bind.mp h) fun c g1 h1 => ?_
    cases c with
    | false => exact h1
    | true =>
      refine go_mono (go_bind.mp h1) fun fl g2 h2 => ?_
      cases fl with
      | nx => exact ⟨m, Nat.lt_succ_self m, h2⟩
      | ct => exact ⟨m, Nat.lt_succ_self m, h2⟩
      | bk => exact h2
      | rt r => exact h2
theorem qs_for {ws : List Nat} {iter : Expr} {body : List Stmt} {i : FI} {t : FG} (hp : PassesOwn (model X.prog X.w) X.A X.env X.xe) (hc : X.calm = true) (hi : PFI ρ X dx tg iter i) (hg : PFG ρ X dx ws tg t) (hb : PFSs ρ X dx body u)
    (hs : ∀ x, foldedSetIterable iter X.env x = pure x := by intro _; rfl) : PFS ρ X dx (.For tg iter body [] pos) (sFr i t u) := pds_mono (pds_for hp hc hi hg hb hs) fun E g h => go_mono (go_bind.mp h) fun ds g1 h1 => by
  refine ⟨fun i g => (forGo t u (ds.drop i) g).go dx (flK E), h1, fun i g h => ⟨fun e => ?_, fun x hx => ?_⟩⟩
  · have h : (forGo t u (ds.drop i) g).go dx (flK E) := h
    rw [List.drop_of_length_le (by omega)] at h
    exact h
  · have hl := (List.getElem?_eq_some_iff.mp hx).1
    have hx' : ds[i] = x := (List.getElem?_eq_some_iff.mp hx).2
    have h : (forGo t u (ds.drop i) g).go dx (flK E) := h
    rw [List.drop_eq_getElem_cons hl, hx'] at h
    refine go_mono (go_bind.mp h) fun _ g1 h1 => go_mono (go_bind.mp h1) fun fl g2 h2 => ?_
    cases fl with
    | nx => exact h2
    | ct => exact h2
    | bk => exact h2
    | rt r => exact h2
variable {es : List Expr} {a b : Expr} {p : Pos}
theorem qi_seq {l : Expr} (h : PF ρ X dx l f) : PFI ρ X dx tg l (iSeq f) := pdi_mono (pdi_seq h) fun g k h => go_mono (go_bind.mp h) fun r g1 h1 => by
  split at h1
  · rename_i hn
    split at h1
    · rename_i t ds hs; exact ⟨t, ds, hn, hs, h1⟩
    · exact h1.elim
  · exact h1.elim
theorem qi_range1 (hg : Gl X "range") (hm : X.mg "range" = none) (ha : PFA ρ X dx [a] fs) (hs : starEach [a] X.env = [(false, eval a X.env)] := by rfl) : PFI ρ X dx tg (.Call (.Name "range" p) [a] [] pos) (iRg1 fs) := pdi_mono (pdi_range1 hg hm ha hs) fun g k h => go_mono (go_bind.mp h) fun rs g1 h1 => by
  split at h1
  · split at h1
    · rename_i hr
      have hr := of_decide_eq_true hr
      exact ⟨_, rfl, hr.1, hr.2, h1⟩
    · exact h1.elim
  · exact h1.elim
theorem qi_range2 (hg : Gl X "range") (hm : X.mg "range" = none) (ha : PFA ρ X dx [a, b] fs) (hs : starEach [a, b] X.env = [(false, eval a X.env), (false, eval b X.env)] := by rfl) (hs2 : starEach [b] X.env = [(false, eval b X.env)] := by rfl) : PFI ρ X dx tg (.Call (.Name "range" p) [a, b] [] pos) (iRg2 fs) := pdi_mono (pdi_range2 hg hm ha hs hs2) fun g k h => go_mono (go_bind.mp h) fun rs g1 h1 => by
  split at h1
  · split at h1
    · rename_i hr
      simp only [Bool.and_eq_true] at hr
      have h2 := of_decide_eq_true hr.1
      have h3 := of_decide_eq_true hr.2
      exact ⟨_, _, rfl, ⟨h2.1, h2.2, h3.1, h3.2⟩, h1⟩
    · exact h1.elim
  · exact h1.elim
theorem qi_enum {tpos : Pos} {elts : List Expr} {kk : Nat} (hg : Gl X "enumerate") (hm : X.mg "enumerate" = none) (ha : PFA ρ X dx [e] fs) (hs : starEach [e] X.env = [(false, eval e X.env)] := by rfl) : PFI ρ X dx (.Tuple elts kk tpos) (.Call (.Name "enumerate" p) [e] [] pos) (iEn fs) := pdi_mono (pdi_enum hg hm ha hs) fun g k h => go_mono (go_bind.mp h) fun rs g1 h1 => by
  split at h1
  · split at h1
    · rename_i hn
      split at h1
      · rename_i t ds hs; exact ⟨_, t, ds, rfl, hn, hs, h1⟩
      · exact h1.elim
    · exact h1.elim
  · exact h1.elim
theorem seqD_of {g : G} {x : PyData} {ds : List PyData} (h : seqD x = some ds) : ∃ t, seqOf g (.d x) = some (t, ds) := by
  cases x with
  | list xs => cases h; exact ⟨false, rfl⟩
  | tuple xs => cases h; exact ⟨true, rfl⟩
  | _ => cases h
section
variable {e1 e2 e3 : Expr} {elts : List Expr} {kk : Nat} {tpos kp pc : Pos} {kc : Nat}
theorem rd_z2 : ∀ g k, rd dx (iZ2 fs) g k → iZipS2 (rd dx fs) g k := fun g k h => go_mono (go_bind.mp h) fun rs g1 h1 => by
  split at h1
  · split at h1
    · rename_i xs ys hx hy
      split at h1
      · rename_i hl
        obtain ⟨t1, s1⟩ := seqD_of (g := g1) hx
        obtain ⟨t2, s2⟩ := seqD_of (g := g1) hy
        exact ⟨_, t1, xs, _, t2, ys, rfl, s1, s2, hl, h1⟩
      · exact h1.elim
    · exact h1.elim
  · exact h1.elim
theorem qi_zipP2 (hg : Gl X "zip") (hm : X.mg "zip" = none) (ha : PFA ρ X dx [e1, e2] fs) (hs : starEach [e1, e2] X.env = (false, eval e1 X.env) :: starEach [e2] X.env := by rfl) (hpl : (backTo pos (starEach [e2] X.env)).any (·.1) = false := by rfl) :
    PFI ρ X dx (.Tuple elts kk tpos) (.Call (.Name "zip" p) [e1, e2] [] pos) (iZ2 fs) := pdi_mono (pdi_zipP2 hg hm ha hs hpl) rd_z2
end
end
abbrev dx0 : DX := fun _ _ => False
section
variable {ρ : Root} {X : Cx} {dx : DX} {tg iter elt : Expr} {ifs : List Expr} {pos : Pos} {scope : Scope} {own : List (Str × Nat)} {i : FI} {t : FG} {c : FT} {f : FE}
theorem rd_lcAt {ws : List Nat} {k : List PyData → G → Prop} {sl : List (Option R)} {ds : List PyData} {ce : List Ct} (h : (lcGo t c f sl ws ds [] ce).go dx k) :
    ∃ I : Nat → List PyData → List Ct → Prop, I 0 [] ce ∧ ∀ i acc ce, I i acc ce → (i = ds.length → k acc ⟨sl, ce⟩) ∧ ∀ x, ds[i]? = some x → acc.length < 100000 ∧ rG dx0 t (.d x) ⟨wipeG sl ws, ce⟩ fun g2 => rd dx0 c g2 fun b g3 =>
    if b = true then rd dx0 f g3 fun y g4 => ∃ d, y = .d d ∧ I (i + 1) (acc ++ [d]) g4.ce else I (i + 1) acc g3.ce := by
  have noex : ∀ (ds acc : List PyData) (ce : List Ct) n g, lcGo t c f sl ws ds acc ce ≠ .ex n g := by
    intro ds
    induction ds with
    | nil => intro acc ce n g z; cases z
    | cons x ds ih =>
      intro acc ce n g z
      unfold lcGo at z
      split at z
      · split at z
        · split at z
          · split at z
            · exact ih _ _ _ _ z
            · cases z
          · exact ih _ _ _ _ z
          · cases z
        · cases z
      · cases z
  refine ⟨fun i acc ce => (lcGo t c f sl ws (ds.drop i) acc ce).go dx0 k, ?_, fun i acc ce h => ⟨fun e => ?_, fun x hx => ?_⟩⟩
  · show (lcGo t c f sl ws ds [] ce).go dx0 k
    cases hg : lcGo t c f sl ws ds [] ce with
    | ok a g => rw [hg] at h; exact h
    | no => rw [hg] at h; exact h
    | ex n g => exact absurd hg (noex _ _ _ _ _)
  · have h : (lcGo t c f sl ws (ds.drop i) acc ce).go dx0 k := h
    rw [List.drop_of_length_le (by omega)] at h
    exact h
  · have hl := (List.getElem?_eq_some_iff.mp hx).1
    have hx' : ds[i] = x := (List.getElem?_eq_some_iff.mp hx).2
    have h : (lcGo t c f sl ws (ds.drop i) acc ce).go dx0 k := h
    rw [List.drop_eq_getElem_cons hl, hx'] at h
    unfold lcGo at h
    split at h
    · rename_i ha
      refine ⟨ha, ?_⟩
      unfold rG rd
      split at h
      · rename_i g2 ht
        rw [ht]
        show (c g2).go dx0 _
        split at h
        · rename_i g3 hc
          rw [hc]
          simp only [Out.go, if_true]
          split at h
          · rename_i d g4 hf
            rw [hf]
            exact ⟨d, rfl, h⟩
          · exact h.elim
        · rename_i g3 hc
          rw [hc]
          simp only [Out.go, Bool.false_eq_true, if_false]
          exact h
        · exact h.elim
      · exact h.elim
    · exact h.elim
theorem rd_lc {ws : List Nat} : ∀ g k, rd dx (fLc i t c f ws) g k → dLc (rd dx i) (rG dx0 t) (rd dx0 c) (rd dx0 f) ws g k := fun g k h => go_mono (go_bind.mp h) fun ds g1 h1 => rd_lcAt (k := fun acc g => k (.d (.list acc)) g) (go_bind.mp h1)
theorem rd_lcO {ws : List Nat} : ∀ g k, rd dx (fLcO i t c f ws) g k → dLcO (rd dx i) (rG dx0 t) (rd dx0 c) (rd dx0 f) ws g k := fun g k h => go_mono (go_bind.mp h) fun ds g1 h1 => rd_lcAt (k := fun acc g => k (.o g.ce.length) { g with ce := g.ce ++ [.lst acc] }) (go_bind.mp h1)
theorem q_lc (hc : X.calm = true) (hN : X.N.Nodup) (hi : PFI ρ X dx tg iter i) (ok : BlkOk X.N X.env.scope scope own)
    (hg : ∀ (s : Shared) (H : Hp) (C : Addr) (cl : List (Str × Addr)) (fp : List Addr), PFG ρ (X.blk s H scope (compEnvC scope cl C X.env) fp) dx0 (own.map (·.2)) tg t)
    (ht : ∀ (s : Shared) (H : Hp) (C : Addr) (cl : List (Str × Addr)) (fp : List Addr), PFTs ρ (X.blk s H scope (compEnvC scope cl C X.env) fp) dx0 ifs c)
    (he : ∀ (s : Shared) (H : Hp) (C : Addr) (cl : List (Str × Addr)) (fp : List Addr), PF ρ (X.blk s H scope (compEnvC scope cl C X.env) fp) dx0 elt f) (hs : ∀ x, foldedSetIterable iter X.env x = pure x := by intro _; rfl) :
    PF ρ X dx (.ListComp elt [⟨tg, iter, ifs, 0⟩] scope pos) (fLc i t c f (own.map (·.2))) := pd_mono (pd_lc hc hN hi ok hg ht he hs) rd_lc
theorem q_lcO (hc : X.calm = true) (hN : X.N.Nodup) (hi : PFI ρ X dx tg iter i) (ok : BlkOk X.N X.env.scope scope own)
    (hg : ∀ (s : Shared) (H : Hp) (C : Addr) (cl : List (Str × Addr)) (fp : List Addr), PFG ρ (X.blk s H scope (compEnvC scope cl C X.env) fp) dx0 (own.map (·.2)) tg t)
    (ht : ∀ (s : Shared) (H : Hp) (C : Addr) (cl : List (Str × Addr)) (fp : List Addr), PFTs ρ (X.blk s H scope (compEnvC scope cl C X.env) fp) dx0 ifs c)
    (he : ∀ (s : Shared) (H : Hp) (C : Addr) (cl : List (Str × Addr)) (fp : List Addr), PF ρ (X.blk s H scope (compEnvC scope cl C X.env) fp) dx0 elt f) (hs : ∀ x, foldedSetIterable iter X.env x = pure x := by intro _; rfl) :
    PF ρ X dx (.ListComp elt [⟨tg, iter, ifs, 0⟩] scope pos) (fLcO i t c f (own.map (·.2))) := pd_mono (pd_lcO hc hN hi ok hg ht he hs) rd_lcO
theorem qs_setLc {j : Nat} {y : Str} {py spos : Pos} (hc : X.calm = true) (hN : X.N.Nodup) (hy : X.N[j]? = some y) (hyl : X.env.scope.names.lookup y = some .local)
    (hsw : swapsWith (.ListComp elt [⟨tg, iter, ifs, 0⟩] scope pos) (some (.Name y py)) spos.line X.env = pure true) (hi : PFI ρ X dx tg iter i) (ok : BlkOk X.N X.env.scope scope own)
    (hg : ∀ (s : Shared) (H : Hp) (C : Addr) (cl : List (Str × Addr)) (fp : List Addr), PFG ρ (X.blk s H scope (compEnvC scope cl C X.env) fp) dx0 (own.map (·.2)) tg t)
    (ht : ∀ (s : Shared) (H : Hp) (C : Addr) (cl : List (Str × Addr)) (fp : List Addr), PFTs ρ (X.blk s H scope (compEnvC scope cl C X.env) fp) dx0 ifs c)
    (he : ∀ (s : Shared) (H : Hp) (C : Addr) (cl : List (Str × Addr)) (fp : List Addr), PF ρ (X.blk s H scope (compEnvC scope cl C X.env) fp) dx0 elt f) (hs : ∀ x, foldedSetIterable iter X.env x = pure x := by intro _; rfl) :
    PFS ρ X dx (.Assign [.Name y py] (.ListComp elt [⟨tg, iter, ifs, 0⟩] scope pos) spos) (sSet (fLc i t c f (own.map (·.2))) (tN j)) :=
  pds_mono (ps_imp (ps_setLc hc hN hy hyl hsw hi ok hg ht he hs) fun D s H h => ref_lc (own := false) s H _ (ref_asgN D s H h)) fun E g h => rd_lc g _ (go_mono (go_bind.mp h) fun r g1 h1 => h1)
end
end DL
set_option Elab.async false
set_option linter.all false
set_option maxRecDepth 100000
set_option maxHeartbeats 4000000
set_option autoImplicit false
namespace DL
open PySem PySem.Spec PyProof.Rows L2
/-- the promise: the def does what the function f says -/
def spF (fr : PySem.W.Frag) (cl : Str → Addr) (n : Nat) (f : Fn) : Sp := fun vs H Q E => ∃ (B O : Hp) (ps : List Addr) (bx : List Ct) (rs : List R), vs.length = n ∧ Stt (kAt fr cl B O ps) ⟨B, O, ps⟩ ⟨[], bx⟩ [] [] H B ps ∧ Paired (RvOk (kAt fr cl B O ps) B ps) vs rs ∧ f rs bx ≠ .no ∧
  (∀ v H' q bx' B' al' ce', f rs bx = .ok q bx' → bx'.length = ps.length → Stt (kAt fr cl B O ps) ⟨B, O, ps⟩ ⟨[], bx' ++ ce'⟩ [] [] H' B' al' → ResOk B' al' (bx' ++ ce') ps.length v q → Q v H') ∧
  ∀ n cls d H' bx' B' al' ce', f rs bx = .ex n bx' → bx'.length = ps.length → Stt (kAt fr cl B O ps) ⟨B, O, ps⟩ ⟨[], bx' ++ ce'⟩ [] [] H' B' al' → XnOk (kAt fr cl B O ps) B' n cls d → E cls d H'
section
variable {P : Program} {w : World} {fr : PySem.W.Frag} {mg : Str → Option Value} {base : Heap} {cl : Str → Addr}
theorem split_ce {K : KR} {F : Fm} {g : G} {H B : Hp} {al : List Addr} (S : Stt K F g [] [] H B al) : ∃ ce', g.ce = g.ce.take F.P.length ++ ce' ∧ (g.ce.take F.P.length).length = F.P.length := by
  obtain ⟨t, ht⟩ := S.pre
  refine ⟨g.ce.drop F.P.length, (List.take_append_drop _ _).symm, ?_⟩
  rw [List.length_take, ← S.len, ht, List.length_append]
  omega
/-- THE RULE for a def -/
theorem fnF {x qual : Str} {st : Stmt} {f : Addr} {fd : FuncData} {N ps : List Str} {k : Nat} {u : FS} (F : Fun fr x qual st f fd) (S : FnScope N ps (defScope st))
    (body : ∀ (cdv : Value) (A : Around) (outer : List Env) (s : Shared) (H : Hp) (E : XK) (ρ : Root) (dx : DX), ρ.cl = cl → Calm k (A.deeper (envOfC qual (defScope st) s.heap.objs.size f cdv)) →
      Takes (cxOf (L2.CX P w) P w fr mg base N qual (defScope st) f cdv A outer s H E) (liftX ⟨fr, ρ⟩ dx) →
      PFSs ρ (cxOf (L2.CX P w) P w fr mg base N qual (defScope st) f cdv A outer s H E) dx (defBody st) u) : FnG P w fr mg base (L2.CX P w) (k + 1) f fd ps (spF fr cl ps.length (mkFn N.length u)) := by
  refine DL.Fun.goes F S (fun vs H Q E h => ?_) (fun cdv A outer s H vs Q E hr h => ?_)
  · obtain ⟨B, O, ps, bx, rs, hl, _⟩ := h
    exact hl
  · obtain ⟨B, O, pp, bx, rs, hl, S0, pr, hn, q, qx⟩ := h
    have bl : bx.length = pp.length := S0.len.symm
    have tk0 : Takes (cxOf (L2.CX P w) P w fr mg base N qual (defScope st) f cdv A outer s H E) (fun cls d _ H => E cls d H) := takes_of rfl rfl rfl rfl
    have tk := tk0.imp (W' := liftX ⟨fr, ⟨B, O, pp, cl⟩⟩ fun n g => u (g0 N.length rs bx) = .ex n g) fun c d σ H' ⟨F', g', tm', B', al', n, S', hg, hxn⟩ => by
      have S2 := S'.root
      obtain ⟨ce', e1, e2⟩ := split_ce S2
      have e1 : g'.ce = g'.ce.take pp.length ++ ce' := e1
      have e2 : (g'.ce.take pp.length).length = pp.length := e2
      refine qx n c d H' (g'.ce.take pp.length) B' al' ce' ?_ e2 ?_ hxn
      · unfold mkFn
        rw [hg, bl]
      · rw [← e1]; exact S2
    have hd := body cdv A outer s H E ⟨B, O, pp, cl⟩ _ rfl hr tk
    refine ⟨_, hd, ⟨B, O, pp⟩, g0 N.length rs bx, [], { nx := fun g => u (g0 N.length rs bx) = .ok .nx g, rt := fun r g => u (g0 N.length rs bx) = .ok (.rt r) g }, B, pp, stt_start S0 pr, ?_, ?_⟩
    · unfold rS
      cases hu : u (g0 N.length rs bx) with
      | no => unfold mkFn at hn; rw [hu] at hn; exact absurd rfl hn
      | ex n g => exact rfl
      | ok fl g =>
        cases fl with
        | nx => exact rfl
        | rt r => exact rfl
        | bk => unfold mkFn at hn; rw [hu] at hn; exact absurd rfl hn
        | ct => unfold mkFn at hn; rw [hu] at hn; exact absurd rfl hn
    · refine ⟨fun s' H' g' B' al' h' S' => ?_, fun s' v H' r g' B' al' h' S' => ?_, fun s' H' g' B' al' h' S' => h'.elim, fun s' H' g' B' al' h' S' => h'.elim, rfl⟩
      · have S2 := S'.bare
        obtain ⟨ce', e1, e2⟩ := split_ce S2
        have e1 : g'.ce = g'.ce.take pp.length ++ ce' := e1
        have e2 : (g'.ce.take pp.length).length = pp.length := e2
        refine q .non H' (.dat .none) (g'.ce.take pp.length) B' al' ce' ?_ e2 (by rw [← e1]; exact S2) Dq.non
        unfold mkFn
        rw [h', bl]
        rfl
      · have hv := S'.top rfl
        have S2 := S'.bare
        obtain ⟨ce', e1, e2⟩ := split_ce S2
        have e1 : g'.ce = g'.ce.take pp.length ++ ce' := e1
        have e2 : (g'.ce.take pp.length).length = pp.length := e2
        have ef : mkFn N.length u rs bx = finF bx.length r g' := by unfold mkFn; rw [h']
        rw [ef] at hn
        cases r with
        | d y => exact q v H' (.dat y) (g'.ce.take pp.length) B' al' ce' (by rw [ef, bl]; rfl) e2 (by rw [← e1]; exact S2) hv
        | s ns => exact absurd rfl hn
        | x n => exact absurd rfl hn
        | l js => exact absurd rfl hn
        | m ct =>
          obtain ⟨a, z1, z2, z3⟩ := hv
          exact q v H' (.shC ct) (g'.ce.take pp.length) B' al' ce' (by rw [ef, bl]; rfl) e2 (by rw [← e1]; exact S2) ⟨a, z1, z2, _, _, z3⟩
        | o j =>
          obtain ⟨p, z1, z2⟩ := hv
          unfold finF at hn ef
          by_cases hj : bx.length ≤ j
          · simp only [if_pos hj] at hn ef
            cases hc : g'.ce[j]? with
            | none => simp only [hc] at hn; exact absurd rfl hn
            | some ct =>
              simp only [hc] at hn ef
              have hnd : ct ≠ .dead := fun z => by subst z; exact absurd rfl hn
              refine q v H' (.newC ct) (g'.ce.take pp.length) B' al' ce' ?_ e2 (by rw [← e1]; exact S2) ⟨j, p, by omega, z1, z2, by rw [← e1]; exact hc, hnd⟩
              rw [ef, bl]
              cases ct with
              | dead => exact absurd rfl hnd
              | lst _ => rfl
              | dK _ => rfl
              | dT _ => rfl
              | dN _ => rfl
              | dL _ => rfl
              | dF _ => rfl
          · simp only [if_neg hj] at hn
            exact absurd rfl hn
end
section
variable {ρ : Root} {X : Cx} {dx : DX} {k : Nat} {f : Addr} {fd : FuncData} {ps : List Str} {x : Str} {p pos : Pos} {e : Expr} {es : List Expr} {K : KR} {fn : Fn} {fs : FAr} {own : Bool}
theorem ref_callF {n : Nat} : ∀ s H Q, lift K (fun g k => rd dx fs g fun rs g1 => rs.length = n ∧ (callF fn own rs g1).go dx k) s H Q → tCallS (spF K.fr K.rt.cl n fn) (WE (liftX K dx)) (liftA K (rd dx fs)) s H Q := fun s H Q ⟨F, g, tm, kk, B, al, S, hk, q⟩ =>
  ⟨F, g, tm, _, B, al, S, hk, fun vs H1 rs g1 B1 al1 ⟨hlen, hc⟩ S1 pr => by
    show spF K.fr K.rt.cl n fn vs H1 Q _
    unfold callF at hc
    split at hc
    · rename_i hb
      obtain ⟨pp, bb⟩ := bxs_mk S1.len hb.1 hb.2.1
      refine ⟨B1, ownP F H1 B1 al1 pp, pp, _, rs.map (renR (boxes rs)), by rw [pr.length]; exact hlen, callP_in S1 bb, paired_ren bb pr hb.2.2 (fun j h => h), ?_, ?_, ?_⟩
      · intro z
        rw [z] at hc
        exact hc
      · intro v H' qq bx' B' al' ce' ef hl S' hr
        rw [ef] at hc
        have S2 := callP_out S1 bb hl S'
        cases qq with
        | dat y => exact q v H' (.d y) _ B' al1 hc (S2.push hr)
        | shC ct =>
          obtain ⟨a, e1, e2, _, _, e3⟩ := hr
          exact q v H' (.m ct) _ B' al1 hc (S2.push ⟨a, e1, e2, ct_any e3⟩)
        | newC ct =>
          obtain ⟨j, p, hj, e1, e2, e3, e4⟩ := hr
          subst e2
          obtain ⟨a1, a2, a3, a4, a5⟩ := callP_new S1 bb S' hj e1 e3 e4
          cases own with
          | false =>
            obtain ⟨B3, S3⟩ := S2.take a1 a2 a3 a4 a5 e4
            exact q _ H' _ _ B3 al1 hc S3
          | true =>
            have z := S2.own_at (p := p)
            exact q _ H' _ _ B' (al1 ++ [p]) hc ((S2.adoptO a1 a2 a3 a4 a5).push ⟨p, z, rfl⟩)
      · intro n cls d H' bx' B' al' ce' ef hl S' hx
        rw [ef] at hc
        exact ⟨F, _, tm, B', al1, n, callP_out S1 bb hl S', hc, hx⟩
    · exact hc.elim⟩
/-- arguments in number -/
def nArgs (n : Nat) (f : FAr) : Prop := ∀ g rs g', f g = .ok rs g' → rs.length = n
theorem nArgs_nil : nArgs 0 fNil := fun g rs g' h => by cases h; rfl
theorem nArgs_cons {n : Nat} {f : FE} {fs : FAr} (h : nArgs n fs) : nArgs (n + 1) (fCons f fs) := fun g rs g' e => by
  unfold fCons at e
  cases h1 : f g with
  | no => rw [h1] at e; cases e
  | ex n g => rw [h1] at e; cases e
  | ok r g1 =>
    rw [h1] at e
    simp only [bind_ok] at e
    cases h2 : fs g1 with
    | no => rw [h2] at e; cases e
    | ex n g => rw [h2] at e; cases e
    | ok rs g2 =>
      rw [h2] at e
      cases e
      rw [List.length_cons, h g1 rs _ h2]
theorem q_call (own : Bool) (tk : Takes X (liftX ⟨X.K, ρ⟩ dx)) (G : FnG X.prog X.w X.K X.mg X.base (L2.CX X.prog X.w) k f fd ps (spF X.K ρ.cl ps.length fn)) (hr : Calm k X.A) (hg : Gl X x) (hm : X.mg x = some (.ref f)) (hk : PySem.W.keepIn X.K (.ref f) = true) (hb : Binds X.K fd ps []) (ha : PFA ρ X dx (e :: es) fs) (hn : nArgs ps.length fs) (hdb : (x == ("__debug__" : Str)) = false := by decide)
    (he : starEach (e :: es) X.env = (false, eval e X.env) :: starEach es X.env := by rfl) (hpl : (backTo pos (starEach es X.env)).any (·.1) = false := by rfl) : PF ρ X dx (.Call (.Name x p) (e :: es) [] pos) (fCall fn own fs) :=
  pe_imp (pe_callG G hr hg hm hk hb (passAt tk) ha hdb he hpl) fun s H Q ⟨F, g, tm, kk, B, al, S, hk, q⟩ => ref_callF (own := own) s H Q ⟨F, g, tm, kk, B, al, S, (by
    unfold rd fCall at hk
    show (fs g).go dx _
    cases h1 : fs g with
    | no => rw [h1] at hk; exact hk
    | ex n g => rw [h1] at hk; exact hk
    | ok rs g1 => rw [h1] at hk; exact ⟨hn g rs g1 h1, hk⟩), q⟩
end
end DL
set_option Elab.async false
set_option linter.all false
set_option maxRecDepth 100000
set_option maxHeartbeats 4000000
set_option autoImplicit false
namespace DL
open PySem PySem.Spec PyProof.Rows L2
@[simp] theorem onI_ap (f : Int → Int → Option PyData) (u0 : G) (r1 : R) (r2 : R) : onI f u0 r1 r2 = (match r1, r2 with
  | .d (.int i), .d (.int j) => (f i j).map .d
  | _, _ => none) := id rfl
@[simp] theorem opMul_ap (g : G) (r1 : R) (r2 : R) : opMul g r1 r2 = (match r1, r2 with
  | .d (.int i), .d (.int j) => if mulOk i j then some (.d (.int (i * j))) else none
  | _, _ => none) := id rfl
@[simp] theorem opAdd_ap (g : G) (r1 : R) (r2 : R) : opAdd g r1 r2 = (match r1, r2 with
  | .d (.int i), .d (.int j) => some (.d (.int (i + j)))
  | .d (.tuple xs), .d (.tuple ys) => if xs.length + ys.length ≤ 100000 then some (.d (.tuple (xs ++ ys))) else none
  | r1, r2 => (cat2 g r1 r2).map fun l => .d (.list l)) := id rfl
@[simp] theorem opEq_ap (g : G) (r1 : R) (r2 : R) : opEq g r1 r2 = (match datOf g r1, datOf g r2 with
  | some x, some y => if SeqAt.shaped x && SeqAt.shaped y then some (.d (.bool (PyData.eqv x y))) else none
  | _, _ => none) := id rfl
@[simp] theorem opNe_ap (g : G) (r1 : R) (r2 : R) : opNe g r1 r2 = (match datOf g r1, datOf g r2 with
  | some x, some y => if SeqAt.shaped x && SeqAt.shaped y then some (.d (.bool (!PyData.eqv x y))) else none
  | _, _ => none) := id rfl
@[simp] theorem opIsN_ap (u0 : G) (r1 : R) (r2 : R) : opIsN u0 r1 r2 = (match r2 with
  | .d .none => some (.d (.bool (isNR r1)))
  | _ => none) := id rfl
@[simp] theorem opNotN_ap (u0 : G) (r1 : R) (r2 : R) : opNotN u0 r1 r2 = (match r2 with
  | .d .none => some (.d (.bool (!isNR r1)))
  | _ => none) := id rfl
@[simp] theorem opIx_ap (g : G) (r1 : R) (r2 : R) : opIx g r1 r2 = (match r2 with
  | .d key => match dictAt g r1 with
    | some ct => match dGet ct key with
      | some (some x) => some (.d x)
      | _ => none
    | none => match key with
      | .int i => match seqOf g r1 with
        | some (_, ds) => (atI ds i).map .d
        | none => none
      | _ => none
  | _ => none) := id rfl
@[simp] theorem opIn_ap (g : G) (r1 : R) (r2 : R) : opIn g r1 r2 = ((inB g r1 r2).map fun b => .d (.bool b)) := id rfl
@[simp] theorem opNotIn_ap (g : G) (r1 : R) (r2 : R) : opNotIn g r1 r2 = ((inB g r1 r2).map fun b => .d (.bool (!b))) := id rfl
@[simp] theorem fVar_ap (i : Nat) (g : G) : fVar i g = (match g.sl[i]? with
  | some (some r) => .ok r g
  | _ => .no) := id rfl
@[simp] theorem fC_ap (x : PyData) (g : G) : fC x g = (.ok (.d x) g) := id rfl
@[simp] theorem fOp_ap (op : Op2) (f1 f2 : FE) (g : G) : fOp op f1 f2 g = ((f1 g).bind fun r1 g1 => (f2 g1).bind fun r2 g2 => ofO (op g2 r1 r2) g2) := id rfl
@[simp] theorem fNeg_ap (f : FE) (g : G) : fNeg f g = ((f g).bind fun r g1 => match r with
  | .d (.int i) => .ok (.d (.int (-i))) g1
  | _ => .no) := id rfl
@[simp] theorem fAnd_ap (f1 f2 : FE) (g : G) : fAnd f1 f2 g = ((f1 g).bind fun r g1 => match r with
  | .d (.bool c) => if c = true then f2 g1 else .ok (.d (.bool false)) g1
  | _ => .no) := id rfl
@[simp] theorem fOr_ap (f1 f2 : FE) (g : G) : fOr f1 f2 g = ((f1 g).bind fun r g1 => match r with
  | .d (.bool c) => if c = true then .ok (.d (.bool true)) g1 else f2 g1
  | _ => .no) := id rfl
@[simp] theorem fNot_ap (f : FE) (g : G) : fNot f g = ((f g).bind fun r g1 => match r with
  | .d (.bool c) => .ok (.d (.bool (!c))) g1
  | _ => .no) := id rfl
@[simp] theorem fTst_ap (f : FE) (g : G) : fTst f g = ((f g).bind fun r g1 => match r with
  | .d (.bool c) => .ok c g1
  | _ => .no) := id rfl
@[simp] theorem fAndT_ap (t u : FT) (g : G) : fAndT t u g = ((t g).bind fun c g1 => if c = true then u g1 else .ok false g1) := id rfl
@[simp] theorem fOrT_ap (t u : FT) (g : G) : fOrT t u g = ((t g).bind fun c g1 => if c = true then .ok true g1 else u g1) := id rfl
@[simp] theorem fNotT_ap (t : FT) (g : G) : fNotT t g = ((t g).bind fun c g1 => .ok (!c) g1) := id rfl
@[simp] theorem fYes_ap (g : G) : fYes g = (.ok true g) := id rfl
@[simp] theorem fIf_ap (t : FT) (a b : FE) (g : G) : fIf t a b g = ((t g).bind fun c g1 => if c = true then a g1 else b g1) := id rfl
@[simp] theorem fChain_ap (o1 o2 : Op2) (fa fb fc : FE) (g : G) : fChain o1 o2 fa fb fc g = ((fa g).bind fun r1 g1 => (fb g1).bind fun r2 g2 => match o1 g2 r1 r2 with
  | some (.d (.bool c)) => if c = true then (fc g2).bind fun r4 g4 => ofO (o2 g4 r2 r4) g4 else .ok (.d (.bool false)) g2
  | _ => .no) := id rfl
@[simp] theorem fNil_ap (g : G) : fNil g = (.ok [] g) := id rfl
@[simp] theorem fCons_ap (f : FE) (fs : FAr) (g : G) : fCons f fs g = ((f g).bind fun r g1 => (fs g1).bind fun rs g2 => .ok (r :: rs) g2) := id rfl
@[simp] theorem fTup_ap (fs : FAr) (g : G) : fTup fs g = ((fs g).bind fun rs g1 => match asData rs with
  | some ds => if ds.length ≤ 100000 then .ok (.d (.tuple ds)) g1 else .no
  | none => .no) := id rfl
@[simp] theorem fLst_ap (fs : FAr) (g : G) : fLst fs g = ((fs g).bind fun rs g1 => match asData rs with
  | some ds => if ds.length ≤ 100000 then .ok (.d (.list ds)) g1 else .no
  | none => .no) := id rfl
@[simp] theorem fLstO_ap (fs : FAr) (g : G) : fLstO fs g = ((fs g).bind fun rs g1 => match asData rs with
  | some ds => if ds.length ≤ 100000 then newO (.lst ds) g1 else .no
  | none => .no) := id rfl
@[simp] theorem fDict0_ap (g : G) : fDict0 g = (newO (.dK []) g) := id rfl
@[simp] theorem fDict0T_ap (g : G) : fDict0T g = (newO (.dT []) g) := id rfl
@[simp] theorem fNoP_ap (g : G) : fNoP g = (.ok none g) := id rfl
@[simp] theorem fPart_ap (f : FE) (g : G) : fPart f g = ((f g).bind fun r g1 => match r with
  | .d (.int i) => .ok (some i) g1
  | _ => .no) := id rfl
@[simp] theorem fSl_ap (f : FE) (fl fh : FO) (g : G) : fSl f fl fh g = ((f g).bind fun r g1 => (fl g1).bind fun lo g2 => (fh g2).bind fun hi g3 => match seqOf g3 r with
  | some (t, ds) => .ok (.d (if t then .tuple (cut ds lo hi) else .list (cut ds lo hi))) g3
  | none => .no) := id rfl
@[simp] theorem fRev_ap (f : FE) (g : G) : fRev f g = ((f g).bind fun r g1 => match seqOf g1 r with
  | some (t, ds) => .ok (.d (if t then .tuple ds.reverse else .list ds.reverse)) g1
  | none => .no) := id rfl
@[simp] theorem fCl_ap (c : Cl) (fs : FAr) (g : G) : fCl c fs g = ((fs g).bind fun rs g1 => ofO (c g1 rs) g1) := id rfl
@[simp] theorem clLen_ap (g : G) (rs : List R) : clLen g rs = (match rs with
  | [r] => match seqOf g r with
    | some (_, ds) => some (.d (.int ds.length))
    | none => none
  | _ => none) := id rfl
@[simp] theorem clAbs_ap (u0 : G) (rs : List R) : clAbs u0 rs = (match rs with
  | [.d (.int i)] => some (.d (.int (if i < 0 then -i else i)))
  | _ => none) := id rfl
@[simp] theorem clMax_ap (u0 : G) (rs : List R) : clMax u0 rs = (match rs with
  | [.d (.int i), .d (.int j)] => some (.d (.int (if j > i then j else i)))
  | _ => none) := id rfl
@[simp] theorem clMin_ap (u0 : G) (rs : List R) : clMin u0 rs = (match rs with
  | [.d (.int i), .d (.int j)] => some (.d (.int (if j < i then j else i)))
  | _ => none) := id rfl
@[simp] theorem clInt_ap (u0 : G) (rs : List R) : clInt u0 rs = (match rs with
  | [.d (.bool b)] => some (.d (.int (if b then 1 else 0)))
  | _ => none) := id rfl
@[simp] theorem clList_ap (g : G) (rs : List R) : clList g rs = (match rs with
  | [r] => match seqOf g r with
    | some (_, ds) => some (.d (.list ds))
    | none => none
  | _ => none) := id rfl
@[simp] theorem clTuple_ap (g : G) (rs : List R) : clTuple g rs = (match rs with
  | [r] => match seqOf g r with
    | some (_, ds) => some (.d (.tuple ds))
    | none => none
  | _ => none) := id rfl
@[simp] theorem clAll_ap (g : G) (rs : List R) : clAll g rs = (match rs with
  | [r] => match seqOf g r with
    | some (false, ds) => (asBools ds).map fun bs => .d (.bool (bs.all id))
    | _ => none
  | _ => none) := id rfl
@[simp] theorem clAny_ap (g : G) (rs : List R) : clAny g rs = (match rs with
  | [r] => match seqOf g r with
    | some (false, ds) => (asBools ds).map fun bs => .d (.bool (bs.any id))
    | _ => none
  | _ => none) := id rfl
@[simp] theorem clSum_ap (g : G) (rs : List R) : clSum g rs = (match rs with
  | [r] => match seqOf g r with
    | some (false, ds) => (asInts ds).map fun bs => .d (.int bs.sum)
    | _ => none
  | _ => none) := id rfl
@[simp] theorem clSorted_ap (g : G) (rs : List R) : clSorted g rs = (match rs with
  | [r] => match dictAt g r with
    | some (.dK kvs) => match asKeys kvs with
      | some ks => if ks.length < 64 then some (.d (.list ((srt ks).map .int))) else none
      | none => none
    | some _ => none
    | none => match seqOf g r with
      | some (_, ds) => (asInts ds).map fun ns => .d (.list ((srt ns).map .int))
      | none => none
  | _ => none) := id rfl
@[simp] theorem fListO_ap (fs : FAr) (g : G) : fListO fs g = ((fs g).bind fun rs g1 => match rs with
  | [r] => match seqOf g1 r with
    | some (_, ds) => newO (.lst ds) g1
    | none => .no
  | _ => .no) := id rfl
@[simp] theorem fIsi_ap (T : String) (f : FE) (g : G) : fIsi T f g = ((f g).bind fun r g1 => match tyOf g1 r with
  | some t => .ok (.d (.bool (isaB t T))) g1
  | none => .no) := id rfl
@[simp] theorem fIsi2_ap (T U : String) (f : FE) (g : G) : fIsi2 T U f g = ((f g).bind fun r g1 => match tyOf g1 r with
  | some t => .ok (.d (.bool (isaB t T || isaB t U))) g1
  | none => .no) := id rfl
@[simp] theorem fMt_ap (m : Mt) (f : FE) (fs : FAr) (g : G) : fMt m f fs g = ((f g).bind fun r g1 => if isLst g1 r then (fs g1).bind fun rs g2 => ofM (m g2 r rs) else .no) := id rfl
@[simp] theorem mtAppend_ap (g : G) (r : R) (rs : List R) : mtAppend g r rs = (match rs with
  | [.d x] => onL (fun ds => if ds.length < 100000 then some (.d .none, ds ++ [x]) else none) g r
  | _ => none) := id rfl
@[simp] theorem mtInsert_ap (g : G) (r : R) (rs : List R) : mtInsert g r rs = (match rs with
  | [.d (.int i), .d x] => onL (fun ds => if ds.length < 100000 ∧ 0 ≤ i ∧ i < 2 ^ 63 then some (.d .none, ds.take i.toNat ++ [x] ++ ds.drop i.toNat) else none) g r
  | _ => none) := id rfl
@[simp] theorem mtPop_ap (g : G) (r : R) (rs : List R) : mtPop g r rs = (match rs with
  | [.d (.int i)] => onL (popL i) g r
  | _ => none) := id rfl
@[simp] theorem mtExtend_ap (g : G) (r : R) (rs : List R) : mtExtend g r rs = (match rs with
  | [r1] => match seqOf g r1 with
    | some (false, es) => if isMade r1 then onL (fun ds => if ds.length + es.length ≤ 100000 then some (.d .none, ds ++ es) else none) g r else none
    | _ => none
  | _ => none) := id rfl
@[simp] theorem mtIndex_ap (g : G) (r : R) (rs : List R) : mtIndex g r rs = (match rs with
  | [r1] => match datOf g r, datOf g r1 with
    | some (.list ds), some d => if SeqAt.shaped (.list ds) && SeqAt.shaped d then (ds.findIdx? (fun z => PyData.eqv z d)).map fun n => (.d (.int (n : Nat)), g) else none
    | _, _ => none
  | _ => none) := id rfl
@[simp] theorem tN_ap (i : Nat) (r : R) (g : G) : tN i r g = (.ok () { g with sl := g.sl.set i (some r) }) := id rfl
@[simp] theorem tNil_ap (rs : List R) (g : G) : tNil rs g = (match rs with
  | [] => .ok () g
  | _ => .no) := id rfl
@[simp] theorem tCons_ap (t : FG) (u : FGs) (rs : List R) (g : G) : tCons t u rs g = (match rs with
  | r :: rs => (t r g).bind fun _ g1 => u rs g1
  | [] => .no) := id rfl
@[simp] theorem tTup_ap (n : Nat) (t : FGs) (r : R) (g : G) : tTup n t r g = (match r with
  | .d (.tuple ds) => if ds.length = n then t (ds.map .d) g else .no
  | _ => .no) := id rfl
@[simp] theorem tSub_ap (fo fi : FE) (r : R) (g : G) : tSub fo fi r g = ((fo g).bind fun r1 g1 => (fi g1).bind fun r2 g2 => match r, r2 with
  | .d x, .d (.int i) => match onL (fun ds => (ixN ds.length i).map fun n => (.d .none, ds.set n x)) g2 r1 with
    | some (_, g3) => .ok () g3
    | none => .no
  | _, _ => .no) := id rfl
@[simp] theorem sNx_ap (g : G) : sNx g = (.ok .nx g) := id rfl
@[simp] theorem sCt_ap (g : G) : sCt g = (.ok .ct g) := id rfl
@[simp] theorem sBk_ap (g : G) : sBk g = (.ok .bk g) := id rfl
@[simp] theorem sSq_ap (a b : FS) (g : G) : sSq a b g = ((a g).bind fun f g1 => match f with
  | .nx => b g1
  | f => .ok f g1) := id rfl
@[simp] theorem sEx_ap (f : FE) (g : G) : sEx f g = ((f g).bind fun _ g1 => .ok .nx g1) := id rfl
@[simp] theorem sRt_ap (f : FE) (g : G) : sRt f g = ((f g).bind fun r g1 => .ok (.rt r) g1) := id rfl
@[simp] theorem sRtN_ap (g : G) : sRtN g = (.ok (.rt (.d .none)) g) := id rfl
@[simp] theorem sIte_ap (t : FT) (a b : FS) (g : G) : sIte t a b g = ((t g).bind fun c g1 => if c = true then a g1 else b g1) := id rfl
@[simp] theorem sSet_ap (f : FE) (t : FG) (g : G) : sSet f t g = ((f g).bind fun r g1 => (t r g1).bind fun _ g2 => .ok .nx g2) := id rfl
@[simp] theorem sP2_ap (i j : Nat) (fs : FAr) (g : G) : sP2 i j fs g = ((fs g).bind fun rs g1 => match rs with
  | [r1, r2] => .ok .nx { g1 with sl := (g1.sl.set i (some r1)).set j (some r2) }
  | _ => .no) := id rfl
@[simp] theorem sP3_ap (i j l : Nat) (fs : FAr) (g : G) : sP3 i j l fs g = ((fs g).bind fun rs g1 => match rs with
  | [r1, r2, r3] => .ok .nx { g1 with sl := ((g1.sl.set i (some r1)).set j (some r2)).set l (some r3) }
  | _ => .no) := id rfl
@[simp] theorem sAg_ap (i : Nat) (o : Int → Int → Option Int) (f : FE) (g : G) : sAg i o f g = (match g.sl[i]? with
  | some (some (.d (.int n))) => (f g).bind fun r g1 => match r with
    | .d (.int m) => match o n m with
      | some q => .ok .nx { g1 with sl := g1.sl.set i (some (.d (.int q))) }
      | none => .no
    | _ => .no
  | _ => .no) := id rfl
@[simp] theorem sPut_ap (fd fi fv : FE) (g : G) : sPut fd fi fv g = ((fv g).bind fun rv g1 => (fd g1).bind fun rd g2 => (fi g2).bind fun ri g3 => match rv, rd, ri with
  | .d x, .o j, .d key => match g3.ce[j]? with
    | some ct => match dPut ct key x with
      | some ct' => .ok .nx (putC g3 j ct')
      | none => .no
    | none => .no
  | _, _, _ => .no) := id rfl
@[simp] theorem sNo_ap (u0 : G) : sNo u0 = (.no) := id rfl
@[simp] theorem whSt_ap (t : FT) (u w : FS) (g : G) : whSt t u w g = ((t g).bind fun c g1 => if c = true then (u g1).bind fun f g2 => match f with
  | .nx => w g2
  | .ct => w g2
  | .bk => .ok .nx g2
  | .rt r => .ok (.rt r) g2 else .ok .nx g1) := id rfl
@[simp] theorem sFr_ap (i : FI) (t : FG) (u : FS) (g : G) : sFr i t u g = ((i g).bind fun ds g1 => forGo t u ds g1) := id rfl
@[simp] theorem fLc_ap (i : FI) (t : FG) (c : FT) (f : FE) (ws : List Nat) (g : G) : fLc i t c f ws g = ((i g).bind fun ds g1 => (lcGo t c f g1.sl ws ds [] g1.ce).bind fun acc g2 => .ok (.d (.list acc)) g2) := id rfl
@[simp] theorem fLcO_ap (i : FI) (t : FG) (c : FT) (f : FE) (ws : List Nat) (g : G) : fLcO i t c f ws g = ((i g).bind fun ds g1 => (lcGo t c f g1.sl ws ds [] g1.ce).bind fun acc g2 => newO (.lst acc) g2) := id rfl
@[simp] theorem iSeq_ap (f : FE) (g : G) : iSeq f g = ((f g).bind fun r g1 => if noO r then match seqOf g1 r with
  | some (_, ds) => .ok ds g1
  | none => .no else .no) := id rfl
@[simp] theorem iRg1_ap (fs : FAr) (g : G) : iRg1 fs g = ((fs g).bind fun rs g1 => match rs with
  | [.d (.int j)] => if rOk j then .ok (rng 0 j.toNat) g1 else .no
  | _ => .no) := id rfl
@[simp] theorem iRg2_ap (fs : FAr) (g : G) : iRg2 fs g = ((fs g).bind fun rs g1 => match rs with
  | [.d (.int i), .d (.int j)] => if rOk i && rOk j then .ok (rng i (j - i).toNat) g1 else .no
  | _ => .no) := id rfl
@[simp] theorem iEn_ap (fs : FAr) (g : G) : iEn fs g = ((fs g).bind fun rs g1 => match rs with
  | [r] => if noO r then match seqOf g1 r with
    | some (_, ds) => .ok (enumD ds) g1
    | none => .no else .no
  | _ => .no) := id rfl
@[simp] theorem iZ2_ap (fs : FAr) (g : G) : iZ2 fs g = ((fs g).bind fun rs g1 => match rs with
  | [.d x, .d y] => match seqD x, seqD y with
    | some xs, some ys => if ys.length = xs.length then .ok (zip2 xs ys) g1 else .no
    | _, _ => .no
  | _ => .no) := id rfl
@[simp] theorem iZ3_ap (fs : FAr) (g : G) : iZ3 fs g = ((fs g).bind fun rs g1 => match rs with
  | [.d x, .d y, .d z] => match seqD x, seqD y, seqD z with
    | some xs, some ys, some zs => if ys.length = xs.length ∧ zs.length = xs.length then .ok (zip3 xs ys zs) g1 else .no
    | _, _, _ => .no
  | _ => .no) := id rfl
@[simp] theorem clLz2_ap (g : G) (rs : List R) : clLz2 g rs = (match rs with
  | [r1, r2] => match seqOf g r1, seqOf g r2 with
    | some (_, xs), some (_, ys) => if ys.length = xs.length then some (.d (.list (zip2 xs ys))) else none
    | _, _ => none
  | _ => none) := id rfl
@[simp] theorem clLz3_ap (g : G) (rs : List R) : clLz3 g rs = (match rs with
  | [r1, r2, r3] => match seqOf g r1, seqOf g r2, seqOf g r3 with
    | some (_, xs), some (_, ys), some (_, zs) => if ys.length = xs.length ∧ zs.length = xs.length then some (.d (.list (zip3 xs ys zs))) else none
    | _, _, _ => none
  | _ => none) := id rfl
@[simp] theorem fCall_ap (f : Fn) (own : Bool) (fs : FAr) (g : G) : fCall f own fs g = ((fs g).bind fun rs g1 => callF f own rs g1) := id rfl
@[simp] theorem mkFn_ap (n : Nat) (f : FS) (rs : List R) (bx : List Ct) : mkFn n f rs bx = (match f (g0 n rs bx) with
  | .ok .nx g => finF bx.length (.d .none) g
  | .ok (.rt r) g => finF bx.length r g
  | .ex n g => .ex n (g.ce.take bx.length)
  | _ => .no) := id rfl
end DL
set_option Elab.async false
set_option linter.all false
set_option maxRecDepth 100000
set_option maxHeartbeats 4000000
set_option autoImplicit false
namespace DL
open PySem PySem.Spec PyProof.Rows L2
abbrev zD (ns : List Int) : List PyData := ns.map PyData.int
def pD (p : Int × Int) : PyData := .tuple [.int p.1, .int p.2]
abbrev psD (ps : List (Int × Int)) : List PyData := ps.map pD
def Sq (x : PyData) (ds : List PyData) : Prop := x = .list ds ∨ x = .tuple ds
theorem Sq.seq {x : PyData} {ds : List PyData} (h : Sq x ds) (g : G) : ∃ t, seqOf g (.d x) = some (t, ds) := by
  rcases h with rfl | rfl
  · exact ⟨false, rfl⟩
  · exact ⟨true, rfl⟩
theorem sqL {ds : List PyData} : Sq (.list ds) ds := .inl rfl
theorem sqT {ds : List PyData} : Sq (.tuple ds) ds := .inr rfl
/-- no bool, no text, no dict; depth below n -/
def plain : Nat → PyData → Bool
  | _, .none => true
  | _, .int _ => true
  | n + 1, .list ds => ds.all (plain n)
  | n + 1, .tuple ds => ds.all (plain n)
  | _, _ => false
theorem plain_lay : ∀ (n : Nat) (d : PyData), plain n d = true → d.canLay0 = true ∧ d.depth ≤ n + 1
  | _, .none, _ => ⟨rfl, by simp [PyData.depth]⟩
  | _, .int _, _ => ⟨rfl, by simp [PyData.depth]⟩
  | n + 1, .list ds, h => by
    have h : ds.all (plain n) = true := h
    have all : PyData.canLayAll0 ds = true ∧ PyData.depthAll ds ≤ n + 1 := by
      induction ds with
      | nil => exact ⟨rfl, by simp [PyData.depthAll]⟩
      | cons x xs ih =>
        rw [List.all_cons, Bool.and_eq_true] at h
        obtain ⟨a, b⟩ := ih h.2 h.2
        obtain ⟨c, d⟩ := plain_lay n x h.1
        exact ⟨by rw [PyData.canLayAll0, c, a]; rfl, by simp only [PyData.depthAll]; omega⟩
    exact ⟨all.1, by simp only [PyData.depth]; omega⟩
  | n + 1, .tuple ds, h => by
    have h : ds.all (plain n) = true := h
    have all : PyData.canLayAll0 ds = true ∧ PyData.depthAll ds ≤ n + 1 := by
      induction ds with
      | nil => exact ⟨rfl, by simp [PyData.depthAll]⟩
      | cons x xs ih =>
        rw [List.all_cons, Bool.and_eq_true] at h
        obtain ⟨a, b⟩ := ih h.2 h.2
        obtain ⟨c, d⟩ := plain_lay n x h.1
        exact ⟨by rw [PyData.canLayAll0, c, a]; rfl, by simp only [PyData.depthAll]; omega⟩
    exact ⟨all.1, by simp only [PyData.depth]; omega⟩
  | 0, .list _, h => by cases h
  | 0, .tuple _, h => by cases h
  | 0, .bool _, h => by cases h
  | _ + 1, .bool _, h => by cases h
  | 0, .str _, h => by cases h
  | _ + 1, .str _, h => by cases h
  | 0, .dict _, h => by cases h
  | _ + 1, .dict _, h => by cases h
theorem plain_shaped {n : Nat} {d : PyData} (h : plain n d = true) (hn : n < 60) : SeqAt.shaped d = true := by
  obtain ⟨a, b⟩ := plain_lay n d h
  unfold SeqAt.shaped
  rw [a, decide_eq_true (show d.depth ≤ 64 by omega)]
  rfl
mutual
theorem eqv_refl : ∀ (d : PyData), d.canLay0 = true → PyData.eqv d d = true
  | .none, _ => by simp [PyData.eqv]
  | .bool b, _ => by simp [PyData.eqv]
  | .int i, _ => by simp [PyData.eqv]
  | .str s, _ => by simp [PyData.eqv]
  | .list ds, h => by rw [PyData.eqv]; exact eqvAll_refl ds h
  | .tuple ds, h => by rw [PyData.eqv]; exact eqvAll_refl ds h
  | .dict _, h => by cases h
theorem eqvAll_refl : ∀ (ds : List PyData), PyData.canLayAll0 ds = true → PyData.eqvAll ds ds = true
  | [], _ => by simp [PyData.eqvAll]
  | d :: ds, h => by
    rw [PyData.canLayAll0, Bool.and_eq_true] at h
    rw [PyData.eqvAll, eqv_refl d h.1, eqvAll_refl ds h.2]
    rfl
end
theorem eqv_iff : ∀ (n : Nat) (x y : PyData), plain n x = true → plain n y = true → PyData.eqv x y = true → x = y
  | _, .none, y, _, hy, h => by cases y <;> simp_all [PyData.eqv]
  | n, .int i, y, _, hy, h => by
    cases y with
    | int j => simp [PyData.eqv] at h; rw [h]
    | bool b => cases n <;> simp [plain] at hy
    | _ => simp [PyData.eqv] at h
  | n + 1, .list ds, y, hx, hy, h => by
    cases y with
    | list es =>
      have gen : ∀ (ds es : List PyData), ds.all (plain n) = true → es.all (plain n) = true → PyData.eqvAll ds es = true → ds = es := by
        intro ds
        induction ds with
        | nil => intro es _ _ h; cases es with
          | nil => rfl
          | cons _ _ => simp [PyData.eqvAll] at h
        | cons d ds ih => intro es h1 h2 h; cases es with
          | nil => simp [PyData.eqvAll] at h
          | cons e es =>
            rw [List.all_cons, Bool.and_eq_true] at h1 h2
            rw [PyData.eqvAll, Bool.and_eq_true] at h
            rw [eqv_iff n d e h1.1 h2.1 h.1, ih es h1.2 h2.2 h.2]
      rw [PyData.eqv] at h
      rw [gen ds es hx hy h]
    | _ => simp [PyData.eqv] at h
  | n + 1, .tuple ds, y, hx, hy, h => by
    cases y with
    | tuple es =>
      have gen : ∀ (ds es : List PyData), ds.all (plain n) = true → es.all (plain n) = true → PyData.eqvAll ds es = true → ds = es := by
        intro ds
        induction ds with
        | nil => intro es _ _ h; cases es with
          | nil => rfl
          | cons _ _ => simp [PyData.eqvAll] at h
        | cons d ds ih => intro es h1 h2 h; cases es with
          | nil => simp [PyData.eqvAll] at h
          | cons e es =>
            rw [List.all_cons, Bool.and_eq_true] at h1 h2
            rw [PyData.eqvAll, Bool.and_eq_true] at h
            rw [eqv_iff n d e h1.1 h2.1 h.1, ih es h1.2 h2.2 h.2]
      rw [PyData.eqv] at h
      rw [gen ds es hx hy h]
    | _ => simp [PyData.eqv] at h
  | 0, .list _, _, h, _, _ => by cases h
  | 0, .tuple _, _, h, _, _ => by cases h
  | 0, .bool _, _, h, _, _ => by cases h
  | _ + 1, .bool _, _, h, _, _ => by cases h
  | 0, .str _, _, h, _, _ => by cases h
  | _ + 1, .str _, _, h, _, _ => by cases h
  | 0, .dict _, _, h, _, _ => by cases h
  | _ + 1, .dict _, _, h, _, _ => by cases h
theorem eqv_same {n : Nat} {x y : PyData} (hx : plain n x = true) (hy : plain n y = true) : (PyData.eqv x y = true) ↔ x = y := ⟨eqv_iff n x y hx hy, fun e => by
  subst e
  exact eqv_refl x (plain_lay n x hx).1⟩
theorem plain_ints (ns : List Int) (n : Nat) : (zD ns).all (plain n) = true := by
  rw [List.all_eq_true]
  intro x hx
  obtain ⟨i, _, rfl⟩ := List.mem_map.mp hx
  cases n <;> rfl
theorem plain_pairs (ps : List (Int × Int)) (n : Nat) : (psD ps).all (plain (n + 1)) = true := by
  rw [List.all_eq_true]
  intro x hx
  obtain ⟨i, _, rfl⟩ := List.mem_map.mp hx
  show [PyData.int i.1, PyData.int i.2].all (plain n) = true
  exact plain_ints [i.1, i.2] n
theorem zD_inj {a b : List Int} (h : zD a = zD b) : a = b := by
  induction a generalizing b with
  | nil => cases b with
    | nil => rfl
    | cons _ _ => cases h
  | cons x a ih => cases b with
    | nil => cases h
    | cons y b =>
      have h' : PyData.int x :: zD a = PyData.int y :: zD b := h
      injection h' with h1 h2
      injection h1 with h1
      rw [h1, ih h2]
theorem pD_inj {a b : Int × Int} (h : pD a = pD b) : a = b := by
  obtain ⟨a1, a2⟩ := a
  obtain ⟨b1, b2⟩ := b
  unfold pD at h
  injection h with h
  injection h with h1 h2
  injection h1 with h1
  injection h2 with h2 _
  injection h2 with h2
  simp only at h1 h2
  rw [h1, h2]
theorem psD_inj {a b : List (Int × Int)} (h : psD a = psD b) : a = b := by
  induction a generalizing b with
  | nil => cases b with
    | nil => rfl
    | cons _ _ => cases h
  | cons x a ih => cases b with
    | nil => cases h
    | cons y b =>
      have h' : pD x :: psD a = pD y :: psD b := h
      injection h' with h1 h2
      rw [pD_inj h1, ih h2]
theorem eqv_dec {n : Nat} {x y : PyData} {p : Prop} [Decidable p] (hx : plain n x = true) (hy : plain n y = true) (h : x = y ↔ p) : PyData.eqv x y = decide p := by
  rw [Bool.eq_iff_iff, eqv_same hx hy, h, decide_eq_true_eq]
theorem zT_inj {a b : List Int} : PyData.tuple (zD a) = PyData.tuple (zD b) ↔ a = b := ⟨fun h => zD_inj (by injection h), fun h => by rw [h]⟩
theorem zL_inj {a b : List Int} : PyData.list (zD a) = PyData.list (zD b) ↔ a = b := ⟨fun h => zD_inj (by injection h), fun h => by rw [h]⟩
theorem pT_inj {a b : List (Int × Int)} : PyData.tuple (psD a) = PyData.tuple (psD b) ↔ a = b := ⟨fun h => psD_inj (by injection h), fun h => by rw [h]⟩
theorem pL_inj {a b : List (Int × Int)} : PyData.list (psD a) = PyData.list (psD b) ↔ a = b := ⟨fun h => psD_inj (by injection h), fun h => by rw [h]⟩
theorem pD_iff {a b : Int × Int} : pD a = pD b ↔ a = b := ⟨pD_inj, fun h => by rw [h]⟩
@[simp] theorem eqv_zT {a b : List Int} : PyData.eqv (.tuple (zD a)) (.tuple (zD b)) = decide (a = b) := eqv_dec (n := 1) (plain_ints a 0) (plain_ints b 0) zT_inj
@[simp] theorem eqv_zL {a b : List Int} : PyData.eqv (.list (zD a)) (.list (zD b)) = decide (a = b) := eqv_dec (n := 1) (plain_ints a 0) (plain_ints b 0) zL_inj
@[simp] theorem eqv_pT {a b : List (Int × Int)} : PyData.eqv (.tuple (psD a)) (.tuple (psD b)) = decide (a = b) := eqv_dec (n := 2) (plain_pairs a 0) (plain_pairs b 0) pT_inj
@[simp] theorem eqv_pL {a b : List (Int × Int)} : PyData.eqv (.list (psD a)) (.list (psD b)) = decide (a = b) := eqv_dec (n := 2) (plain_pairs a 0) (plain_pairs b 0) pL_inj
@[simp] theorem eqv_pD {a b : Int × Int} : PyData.eqv (pD a) (pD b) = decide (a = b) := eqv_dec (n := 1) (plain_ints [a.1, a.2] 0) (plain_ints [b.1, b.2] 0) pD_iff
@[simp] theorem eqv_int {a b : Int} : PyData.eqv (.int a) (.int b) = decide (a = b) := eqv_dec (n := 1) (x := .int a) (y := .int b) rfl rfl ⟨fun h => by injection h, fun h => by rw [h]⟩
@[simp] theorem shaped_zT {a : List Int} : SeqAt.shaped (.tuple (zD a)) = true := plain_shaped (n := 1) (plain_ints a 0) (by decide)
@[simp] theorem shaped_zL {a : List Int} : SeqAt.shaped (.list (zD a)) = true := plain_shaped (n := 1) (plain_ints a 0) (by decide)
@[simp] theorem shaped_pT {a : List (Int × Int)} : SeqAt.shaped (.tuple (psD a)) = true := plain_shaped (n := 2) (plain_pairs a 0) (by decide)
@[simp] theorem shaped_pL {a : List (Int × Int)} : SeqAt.shaped (.list (psD a)) = true := plain_shaped (n := 2) (plain_pairs a 0) (by decide)
@[simp] theorem shaped_pD {a : Int × Int} : SeqAt.shaped (pD a) = true := plain_shaped (n := 1) (plain_ints [a.1, a.2] 0) (by decide)
@[simp] theorem shaped_int {a : Int} : SeqAt.shaped (.int a) = true := plain_shaped (n := 1) (d := .int a) rfl (by decide)
def lcSt (t : FG) (c : FT) (f : FE) (sl : List (Option R)) (ws : List Nat) (x : PyData) (ce : List Ct) : Option (Option PyData × List Ct) := match t (.d x) ⟨wipeG sl ws, ce⟩ with
  | .ok _ g2 => match c g2 with
    | .ok true g3 => match f g3 with
      | .ok (.d d) g4 => some (some d, g4.ce)
      | _ => none
    | .ok false g3 => some (none, g3.ce)
    | _ => none
  | _ => none
theorem lcGo_cons {t : FG} {c : FT} {f : FE} {sl : List (Option R)} {ws : List Nat} {x : PyData} {ds acc : List PyData} {ce ce' : List Ct} {o : Option PyData} (hl : acc.length < 100000) (h : lcSt t c f sl ws x ce = some (o, ce')) :
    lcGo t c f sl ws (x :: ds) acc ce = lcGo t c f sl ws ds (acc ++ o.toList) ce' := by
  unfold lcSt at h
  rw [lcGo, if_pos hl]
  revert h
  cases t (.d x) ⟨wipeG sl ws, ce⟩ with
  | ok a g2 =>
    dsimp only
    cases c g2 with
    | ok bb g3 =>
      cases bb with
      | true =>
        dsimp only
        cases f g3 with
        | ok r g4 =>
          cases r with
          | d d => intro h; cases h; rfl
          | _ => intro h; cases h
        | _ => intro h; cases h
      | false => intro h; cases h; exact congrArg (fun z => lcGo t c f sl ws ds z _) (List.append_nil _).symm
    | _ => intro h; cases h
  | _ => intro h; cases h
/-- a comprehension that changes no cell -/
theorem lcGo_pure {α : Type} {emb : α → PyData} {t : FG} {c : FT} {f : FE} {sl : List (Option R)} {ws : List Nat} {ce : List Ct} (p : α → Bool) (φ : α → PyData) : ∀ (xs : List α) (acc : List PyData), acc.length + xs.length ≤ 100000 →
    (∀ x ∈ xs, lcSt t c f sl ws (emb x) ce = some (if p x then some (φ x) else none, ce)) → lcGo t c f sl ws (xs.map emb) acc ce = .ok (acc ++ (xs.filter p).map φ) ⟨sl, ce⟩
  | [], acc, _, _ => by rw [List.map_nil, lcGo]; simp
  | x :: xs, acc, hl, h => by
    rw [List.length_cons] at hl
    have hx := h x List.mem_cons_self
    rw [List.map_cons, lcGo_cons (by omega) hx, lcGo_pure p φ xs _ ?_ fun y hy => h y (List.mem_cons_of_mem _ hy)]
    · by_cases q : p x = true
      · rw [List.filter_cons_of_pos q]
        simp [q]
      · rw [List.filter_cons_of_neg q]
        simp [q]
    · rw [List.length_append]
      by_cases q : p x = true
      · simp [q]; omega
      · simp [q]; omega
theorem lcGo_map {α : Type} {emb : α → PyData} {t : FG} {f : FE} {c : FT} {sl : List (Option R)} {ws : List Nat} {ce : List Ct} (φ : α → PyData) {xs : List α} (hl : xs.length ≤ 100000)
    (h : ∀ x ∈ xs, lcSt t c f sl ws (emb x) ce = some (some (φ x), ce)) : lcGo t c f sl ws (xs.map emb) [] ce = .ok (xs.map φ) ⟨sl, ce⟩ := by
  have z := lcGo_pure (emb := emb) (t := t) (c := c) (f := f) (sl := sl) (ws := ws) (ce := ce) (fun _ => true) φ xs [] (by simpa using hl) (fun x hx => by rw [h x hx]; rfl)
  rw [z, List.nil_append, List.filter_eq_self.mpr (fun _ _ => rfl)]
/-- a comprehension with an invariant -/
theorem lcGo_inv {α : Type} {emb : α → PyData} {t : FG} {c : FT} {f : FE} {sl : List (Option R)} {ws : List Nat} (I : Nat → List PyData → List Ct → Prop) {xs : List α} {ce : List Ct} (h0 : I 0 [] ce) (hlen : ∀ i acc ce, I i acc ce → i < xs.length → acc.length < 100000)
    (hs : ∀ i x acc ce, xs[i]? = some x → I i acc ce → ∃ o ce', lcSt t c f sl ws (emb x) ce = some (o, ce') ∧ I (i + 1) (acc ++ o.toList) ce') : ∃ acc ce', lcGo t c f sl ws (xs.map emb) [] ce = .ok acc ⟨sl, ce'⟩ ∧ I xs.length acc ce' := by
  have gen : ∀ (n i : Nat) (acc : List PyData) (ce : List Ct), n + i = xs.length → I i acc ce → ∃ acc' ce', lcGo t c f sl ws ((xs.drop i).map emb) acc ce = .ok acc' ⟨sl, ce'⟩ ∧ I xs.length acc' ce' := by
    intro n
    induction n with
    | zero =>
      intro i acc ce hi hI
      rw [List.drop_of_length_le (by omega), List.map_nil, lcGo]
      exact ⟨acc, ce, rfl, by rw [← hi, Nat.zero_add]; exact hI⟩
    | succ n ih =>
      intro i acc ce hi hI
      have hl : i < xs.length := by omega
      rw [List.drop_eq_getElem_cons hl, List.map_cons]
      obtain ⟨o, ce', h1, h2⟩ := hs i xs[i] acc ce (List.getElem?_eq_getElem hl) hI
      rw [lcGo_cons (hlen i acc ce hI hl) h1]
      exact ih (i + 1) _ ce' (by omega) h2
  exact gen xs.length 0 [] ce (by omega) h0
def forSt (t : FG) (u : FS) (x : PyData) : FS := fun g => (t (.d x) g).bind fun _ g1 => u g1
@[simp] theorem forSt_ap (t : FG) (u : FS) (x : PyData) (g : G) : forSt t u x g = (t (.d x) g).bind fun _ g1 => u g1 := id rfl
theorem forGo_cons {t : FG} {u : FS} {x : PyData} {ds : List PyData} {g : G} : forGo t u (x :: ds) g = (forSt t u x g).bind fun f g2 => match f with
    | .nx => forGo t u ds g2
    | .ct => forGo t u ds g2
    | .bk => .ok .nx g2
    | .rt r => .ok (.rt r) g2 := by
  show ((t (.d x) g).bind fun _ g1 => (u g1).bind _) = ((t (.d x) g).bind fun _ g1 => u g1).bind _
  cases t (.d x) g <;> rfl
@[simp] theorem forGo_nil {t : FG} {u : FS} {g : G} : forGo t u [] g = .ok .nx g := rfl
/-- a loop with an invariant -/
theorem forGo_inv {α : Type} {emb : α → PyData} {t : FG} {u : FS} {xs : List α} {g : G} (I : Nat → G → Prop) (h0 : I 0 g) (hs : ∀ i x g, xs[i]? = some x → I i g → ∃ g2, (forSt t u (emb x) g = .ok .nx g2 ∨ forSt t u (emb x) g = .ok .ct g2) ∧ I (i + 1) g2) : ∃ g', forGo t u (xs.map emb) g = .ok .nx g' ∧ I xs.length g' := by
  have gen : ∀ (n i : Nat) (g : G), n + i = xs.length → I i g → ∃ g', forGo t u ((xs.drop i).map emb) g = .ok .nx g' ∧ I xs.length g' := by
    intro n
    induction n with
    | zero =>
      intro i g hi hI
      rw [List.drop_of_length_le (by omega), List.map_nil, forGo_nil]
      exact ⟨g, rfl, by rw [← hi, Nat.zero_add]; exact hI⟩
    | succ n ih =>
      intro i g hi hI
      have hl : i < xs.length := by omega
      rw [List.drop_eq_getElem_cons hl, List.map_cons, forGo_cons]
      obtain ⟨g2, h1, h2⟩ := hs i xs[i] g (List.getElem?_eq_getElem hl) hI
      rcases h1 with h1 | h1
      · rw [h1]
        exact ih (i + 1) g2 (by omega) h2
      · rw [h1]
        exact ih (i + 1) g2 (by omega) h2
  exact gen xs.length 0 g (by omega) h0
/-- a while with an invariant and a measure -/
theorem sWh_inv {t : FT} {u : FS} {g : G} (I : Nat → G → Prop) (J : G → Prop) (n : Nat) (h0 : I n g) (hs : ∀ n g, I n g → (∃ g1, t g = .ok false g1 ∧ J g1) ∨ ∃ g1 g2 m, t g = .ok true g1 ∧ (u g1 = .ok .nx g2 ∨ u g1 = .ok .ct g2) ∧ m < n ∧ I m g2) : ∃ g', sWh t u g = .ok .nx g' ∧ J g' := by
  induction n using Nat.strongRecOn generalizing g with
  | _ n ih =>
    rw [sWh_step, whSt_ap]
    rcases hs n g h0 with ⟨g1, h1, h2⟩ | ⟨g1, g2, m, h1, h2, h3, h4⟩
    · rw [h1]
      exact ⟨g1, rfl, h2⟩
    · rw [h1]
      obtain ⟨g', e, hj⟩ := ih m h3 h4
      refine ⟨g', ?_, hj⟩
      rcases h2 with h2 | h2
      · simp only [bind_ok, if_true, h2, e]
      · simp only [bind_ok, if_true, h2, e]
end DL
set_option Elab.async false
set_option linter.all false
set_option maxRecDepth 100000
set_option autoImplicit false
namespace DL
def restR (ns : List Int) (h : Int) : List Int := ns.filter (fun n => decide (h ≤ n))
def codeN (ns : List Int) (h : Int) : Nat := (restR ns h).idxOf h
def codeI (ns : List Int) (h : Int) : Int := (codeN ns h : Nat)
def codesM (ns : List Int) : List Int := (srt ns).map (codeI ns)
def inRn (i : Int) (p : Int × Int) : Bool := if decide (p.1 ≤ i) = true then decide (i ≤ p.2) else false
def runA (ps : List (Int × Int)) (i : Int) : Int × Int := ((ps.filter (inRn i)).head?).getD (0, 0)
def fstR (ps : List (Int × Int)) (pl : Nat) : Int := (ps.getD (pl - 1) (0, 0)).1
def lstR (ps : List (Int × Int)) (pl : Nat) : Int := (ps.getD (min (ps.length - 1) (pl + 1)) (0, 0)).2 - 1
def shiftR (p : Int × Int) : Int × Int := (p.1 - 1, p.2 - 1)
def nextP (ps : List (Int × Int)) (pl : Nat) : List (Int × Int) :=
  ps.take (pl - 1) ++ (if fstR ps pl ≤ lstR ps pl then [(fstR ps pl, lstR ps pl)] else []) ++ (ps.drop (pl + 2)).map shiftR
def nextR (ps : List (Int × Int)) (i : Int) : List (Int × Int) := nextP ps (ps.idxOf (runA ps i))
def goL : List (Int × Int) → List Int → List (List (Int × Int))
  | _, [] => []
  | here, c :: cs => here :: goL (nextR here c) cs
def goR : List (Int × Int) → List Int → List (Int × Int)
  | _, [] => []
  | here, c :: cs => runA here c :: goR (nextR here c) cs
def iniR (n : Nat) : List (Int × Int) := (List.range n).map fun (i : Nat) => ((i : Int), (i : Int))
def listsM (ns : List Int) : List (List (Int × Int)) := goL (iniR ns.length) (codesM ns)
def runsC (cs : List Int) : List (Int × Int) := goR (iniR cs.length) cs
def runsM (ns : List Int) : List (Int × Int) := runsC (codesM ns)
theorem srt_len (ns : List Int) : (srt ns).length = ns.length := (srt_perm ns).length_eq
theorem srt_mem {ns : List Int} {h : Int} : h ∈ srt ns ↔ h ∈ ns := (srt_perm ns).mem_iff
theorem srt_of {hs : List Int} (h : hs.Pairwise (· < ·)) : srt hs = hs := (srt_eq (List.Perm.refl _) (h.imp Int.le_of_lt)).symm
theorem srt_lt {ns : List Int} (h : ns.Nodup) : (srt ns).Pairwise (· < ·) := by
  have h1 := srt_sorted ns
  have h2 : (srt ns).Nodup := (srt_perm ns).nodup_iff.mpr h
  exact (h1.and h2).imp fun ⟨a, b⟩ => by omega
theorem restR_erase {ns : List Int} {h h' : Int} (hlt : h < h') : restR (ns.erase h) h' = restR ns h' := by
  unfold restR
  induction ns with
  | nil => rfl
  | cons a t ih =>
    by_cases e : a = h
    · subst e
      rw [List.erase_cons_head, List.filter_cons, if_neg (by simp; omega)]
    · rw [List.erase_cons_tail (by simpa using e), List.filter_cons, List.filter_cons, ih]
theorem codeI_erase {ns : List Int} {h h' : Int} (hlt : h < h') : codeI (ns.erase h) h' = codeI ns h' := by
  unfold codeI codeN
  rw [restR_erase hlt]
theorem srt_erase {ns : List Int} {h : Int} {t : List Int} (e : srt ns = h :: t) : srt (ns.erase h) = t := by
  have p : (h :: t).Perm ns := e ▸ srt_perm ns
  have p2 : t.Perm (ns.erase h) := by
    have z := p.erase h
    rw [List.erase_cons_head] at z
    exact z
  have s : (h :: t).Pairwise (· ≤ ·) := e ▸ srt_sorted ns
  exact (srt_eq p2 (List.pairwise_cons.mp s).2).symm
theorem codes_cons {ns : List Int} {h : Int} {t : List Int} (hn : ns.Nodup) (e : srt ns = h :: t) : codesM ns = codeI ns h :: codesM (ns.erase h) := by
  have lt : (h :: t).Pairwise (· < ·) := e ▸ srt_lt hn
  unfold codesM
  rw [e, srt_erase e, List.map_cons]
  congr 1
  refine List.map_congr_left fun x hx => ?_
  exact (codeI_erase ((List.pairwise_cons.mp lt).1 x hx)).symm
/-- bounds of codes -/
def BdC : Nat → List Int → Prop
  | 0, [] => True
  | n + 1, c :: cs => 0 ≤ c ∧ c ≤ n ∧ BdC n cs
  | _, _ => False
theorem BdC.len : ∀ {n : Nat} {cs : List Int}, BdC n cs → cs.length = n
  | 0, [], _ => rfl
  | n + 1, c :: cs, h => by rw [List.length_cons, BdC.len h.2.2]
  | 0, _ :: _, h => h.elim
  | _ + 1, [], h => h.elim
theorem codeN_lt {ns : List Int} {h : Int} (hm : h ∈ ns) : codeN ns h < (restR ns h).length := List.idxOf_lt_length_of_mem (List.mem_filter.mpr ⟨hm, decide_eq_true (Int.le_refl h)⟩)
theorem codes_nil : codesM [] = [] := by unfold codesM srt; simp
theorem codes_bd : ∀ (n : Nat) (ns : List Int), ns.length = n → ns.Nodup → BdC n (codesM ns)
  | 0, ns, hl, _ => by
    cases ns with
    | nil => rw [codes_nil]; exact trivial
    | cons _ _ => cases hl
  | n + 1, ns, hl, hn => by
    cases e : srt ns with
    | nil =>
      have z := srt_len ns
      rw [e, hl] at z
      cases z
    | cons h t =>
      have hm : h ∈ ns := srt_mem.mp (e ▸ List.mem_cons_self)
      have ihl : (ns.erase h).length = n := by rw [List.length_erase_of_mem hm, hl]; rfl
      rw [codes_cons hn e]
      refine ⟨Int.natCast_nonneg _, ?_, codes_bd n _ ihl (hn.erase h)⟩
      have z := codeN_lt hm
      have z2 := List.length_filter_le (fun n => decide (h ≤ n)) ns
      unfold codeI
      unfold restR at z
      omega
theorem codes_len (ns : List Int) : (codesM ns).length = ns.length := by unfold codesM; rw [List.length_map, srt_len]
def PartF : Int → Int → List (Int × Int) → Prop
  | a, b, [] => a = b
  | a, b, p :: r => p.1 = a ∧ p.1 ≤ p.2 ∧ PartF (p.2 + 1) b r
theorem PartF.le : ∀ {ps : List (Int × Int)} {a b : Int}, PartF a b ps → a ≤ b
  | [], a, b, h => Int.le_of_eq h
  | p :: r, a, b, h => by
    have := PartF.le h.2.2
    have h1 := h.1
    have h2 := h.2.1
    omega
theorem PartF.app : ∀ {ps qs : List (Int × Int)} {a m b : Int}, PartF a m ps → PartF m b qs → PartF a b (ps ++ qs)
  | [], _, a, m, b, h, h' => by rw [show a = m from h]; exact h'
  | p :: r, qs, a, m, b, h, h' => ⟨h.1, h.2.1, PartF.app h.2.2 h'⟩
theorem PartF.split : ∀ {ps qs : List (Int × Int)} {a b : Int}, PartF a b (ps ++ qs) → ∃ m, PartF a m ps ∧ PartF m b qs
  | [], _, a, b, h => ⟨a, rfl, h⟩
  | p :: r, qs, a, b, h => by
    obtain ⟨m, h1, h2⟩ := PartF.split h.2.2
    exact ⟨m, ⟨h.1, h.2.1, h1⟩, h2⟩
theorem PartF.shift : ∀ {ps : List (Int × Int)} {a b : Int}, PartF a b ps → PartF (a - 1) (b - 1) (ps.map shiftR)
  | [], a, b, h => by show a - 1 = b - 1; rw [show a = b from h]
  | p :: r, a, b, h => by
    refine ⟨?_, ?_, ?_⟩
    · show p.1 - 1 = a - 1; rw [h.1]
    · show p.1 - 1 ≤ p.2 - 1; have := h.2.1; omega
    · have z := PartF.shift h.2.2
      show PartF (p.2 - 1 + 1) _ _
      rw [show p.2 - 1 + 1 = p.2 + 1 - 1 by omega]
      exact z
theorem inRn_iff {i : Int} {p : Int × Int} : inRn i p = true ↔ p.1 ≤ i ∧ i ≤ p.2 := by
  unfold inRn
  by_cases h : p.1 ≤ i
  · rw [if_pos (decide_eq_true h)]; simp [h]
  · rw [if_neg (by simpa using h)]; simp [h]
theorem inRn_before {ps : List (Int × Int)} {a b i : Int} (h : PartF a b ps) (hi : b ≤ i) : ∀ p ∈ ps, inRn i p = false := by
  induction ps generalizing a with
  | nil => intro p hp; cases hp
  | cons q r ih =>
    intro p hp
    rcases List.mem_cons.mp hp with e | e
    · subst e
      rw [Bool.eq_false_iff]
      intro z
      have z := (inRn_iff.mp z).2
      have := PartF.le h.2.2
      omega
    · exact ih h.2.2 p e
/-- the part that holds i -/
theorem part_at : ∀ {ps : List (Int × Int)} {a b i : Int}, PartF a b ps → a ≤ i → i < b → ∃ A p B, ps = A ++ p :: B ∧ PartF a p.1 A ∧ p.1 ≤ i ∧ i ≤ p.2 ∧ PartF (p.2 + 1) b B
  | [], a, b, i, h, h1, h2 => by rw [show a = b from h] at h1; omega
  | p :: r, a, b, i, h, h1, h2 => by
    by_cases hi : i ≤ p.2
    · exact ⟨[], p, r, rfl, h.1.symm, by rw [h.1]; exact h1, hi, h.2.2⟩
    · obtain ⟨A, q, B, e, h3, h4, h5, h6⟩ := part_at (i := i) h.2.2 (by omega) h2
      exact ⟨p :: A, q, B, by rw [e]; rfl, ⟨h.1, h.2.1, h3⟩, h4, h5, h6⟩
theorem runA_at {A B : List (Int × Int)} {p : Int × Int} {a i : Int} (hA : PartF a p.1 A) (h1 : p.1 ≤ i) (h2 : i ≤ p.2) : runA (A ++ p :: B) i = p ∧ ((A ++ p :: B).filter (inRn i)).head? = some p := by
  have hf : A.filter (inRn i) = [] := by
    rw [List.filter_eq_nil_iff]
    intro q hq
    rw [inRn_before hA h1 q hq]
    simp
  have hh : ((A ++ p :: B).filter (inRn i)).head? = some p := by
    rw [List.filter_append, hf, List.filter_cons, if_pos (inRn_iff.mpr ⟨h1, h2⟩)]
    rfl
  refine ⟨?_, hh⟩
  unfold runA
  rw [hh]
  rfl
theorem part_fresh {A : List (Int × Int)} {p : Int × Int} {a : Int} (hA : PartF a p.1 A) : p ∉ A := fun q => by
  have h := inRn_before (i := p.1) hA (Int.le_refl _) p q
  induction A generalizing a with
  | nil => cases q
  | cons r t ih =>
    rcases List.mem_cons.mp q with e | e
    · subst e
      have z := PartF.le hA.2.2
      have z2 := hA.2.1
      omega
    · exact ih hA.2.2 e
theorem idx_at {A B : List (Int × Int)} {p : Int × Int} {a i : Int} (hA : PartF a p.1 A) (h1 : p.1 ≤ i) (h2 : i ≤ p.2) : (A ++ p :: B).idxOf (runA (A ++ p :: B) i) = A.length := by
  rw [(runA_at hA h1 h2).1, List.idxOf_append, if_neg (part_fresh hA), List.idxOf_cons_self, Nat.zero_add]
theorem nextP_part {A B : List (Int × Int)} {p : Int × Int} {b : Int} (hA : PartF 0 p.1 A) (hp : p.1 ≤ p.2) (hB : PartF (p.2 + 1) b B) : PartF 0 (b - 1) (nextP (A ++ p :: B) A.length) := by
  -- the left end
  have left : ∃ A', (A ++ p :: B).take (A.length - 1) = A' ∧ PartF 0 (fstR (A ++ p :: B) A.length) A' ∧ fstR (A ++ p :: B) A.length ≤ p.1 ∧ (A ≠ [] → fstR (A ++ p :: B) A.length < p.1) := by
    rcases List.eq_nil_or_concat A with e | ⟨A0, q, e⟩
    · subst e
      refine ⟨[], rfl, ?_, ?_, fun z => absurd rfl z⟩
      · show (0 : Int) = p.1
        exact hA
      · exact Int.le_refl _
    · rw [List.concat_eq_append] at e
      subst e
      obtain ⟨m, h1, h2⟩ := PartF.split hA
      have e1 : (A0 ++ [q] ++ p :: B).take ((A0 ++ [q]).length - 1) = A0 := by
        rw [List.append_assoc, List.length_append]
        exact List.take_left' (by simp)
      have e2 : fstR (A0 ++ [q] ++ p :: B) (A0 ++ [q]).length = q.1 := by
        unfold fstR
        rw [List.append_assoc, List.length_append, show A0.length + [q].length - 1 = A0.length by simp, List.getD_eq_getElem?_getD, List.getElem?_append_right (Nat.le_refl _), Nat.sub_self]
        rfl
      have h3 : q.2 + 1 = p.1 := h2.2.2
      have h4 := h2.2.1
      have h5 := h2.1
      refine ⟨A0, e1, by rw [e2, h5]; exact h1, by rw [e2]; omega, fun _ => by rw [e2]; omega⟩
  have right : PartF (lstR (A ++ p :: B) A.length + 1) (b - 1) (((A ++ p :: B).drop (A.length + 2)).map shiftR) ∧ p.2 - 1 ≤ lstR (A ++ p :: B) A.length ∧ (B ≠ [] → p.2 ≤ lstR (A ++ p :: B) A.length) := by
    cases B with
    | nil =>
      have e1 : (A ++ [p]).drop (A.length + 2) = [] := List.drop_eq_nil_of_le (by simp)
      have e2 : lstR (A ++ [p]) A.length = p.2 - 1 := by
        unfold lstR
        rw [List.length_append, show min (A.length + [p].length - 1) (A.length + 1) = A.length by simp, List.getD_eq_getElem?_getD, List.getElem?_append_right (Nat.le_refl _), Nat.sub_self]
        rfl
      rw [e1, e2]
      have hB : p.2 + 1 = b := hB
      exact ⟨show p.2 - 1 + 1 = b - 1 by omega, Int.le_refl _, fun z => absurd rfl z⟩
    | cons q B =>
      have e1 : (A ++ p :: q :: B).drop (A.length + 2) = B := by
        rw [List.drop_append, List.drop_eq_nil_of_le (by omega), show A.length + 2 - A.length = 2 by omega]
        rfl
      have e2 : lstR (A ++ p :: q :: B) A.length = q.2 - 1 := by
        unfold lstR
        rw [List.length_append, show min (A.length + (p :: q :: B).length - 1) (A.length + 1) = A.length + 1 by simp, List.getD_eq_getElem?_getD, List.getElem?_append_right (by omega), show A.length + 1 - A.length = 1 by omega]
        rfl
      rw [e1, e2]
      have z := hB.2.2.shift
      have h4 := hB.1
      have h5 := hB.2.1
      rw [show q.2 + 1 - 1 = q.2 - 1 + 1 by omega] at z
      exact ⟨z, by omega, fun _ => by omega⟩
  obtain ⟨A', e1, h1, h2, h3⟩ := left
  obtain ⟨h4, h5, h6⟩ := right
  unfold nextP
  rw [e1]
  by_cases hc : fstR (A ++ p :: B) A.length ≤ lstR (A ++ p :: B) A.length
  · rw [if_pos hc]
    exact PartF.app (PartF.app h1 ⟨rfl, hc, rfl⟩) h4
  · rw [if_neg hc, List.append_nil]
    have e : fstR (A ++ p :: B) A.length = lstR (A ++ p :: B) A.length + 1 := by omega
    rw [e] at h1
    exact PartF.app h1 h4
theorem runA_in {ps : List (Int × Int)} {n i : Int} (h : PartF 0 n ps) (h0 : 0 ≤ i) (h1 : i < n) : ∃ A p B, ps = A ++ p :: B ∧ runA ps i = p ∧ (ps.filter (inRn i)).head? = some p ∧ ps.idxOf (runA ps i) = A.length ∧ p.1 ≤ i ∧ i ≤ p.2 ∧ PartF 0 p.1 A ∧ PartF (p.2 + 1) n B := by
  obtain ⟨A, p, B, e, hA, l1, l2, hB⟩ := part_at h h0 h1
  subst e
  exact ⟨A, p, B, rfl, (runA_at hA l1 l2).1, (runA_at hA l1 l2).2, idx_at hA l1 l2, l1, l2, hA, hB⟩
theorem nextR_part {ps : List (Int × Int)} {n i : Int} (h : PartF 0 n ps) (h0 : 0 ≤ i) (h1 : i < n) : PartF 0 (n - 1) (nextR ps i) := by
  obtain ⟨A, p, B, e, _, _, e3, l1, l2, hA, hB⟩ := runA_in h h0 h1
  subst e
  unfold nextR
  rw [e3]
  exact nextP_part hA (by omega) hB
theorem run_bounds {ps : List (Int × Int)} {n i : Int} (h : PartF 0 n ps) (h0 : 0 ≤ i) (h1 : i < n) : 0 ≤ (runA ps i).1 ∧ (runA ps i).1 ≤ i ∧ i ≤ (runA ps i).2 ∧ (runA ps i).2 < n := by
  obtain ⟨A, p, B, e, e1, _, e3, l1, l2, hA, hB⟩ := runA_in h h0 h1
  rw [e1]
  have z1 := hA.le
  have z2 := hB.le
  exact ⟨z1, l1, l2, by omega⟩
theorem iniR_part (n : Nat) : PartF 0 n (iniR n) := by
  have gen : ∀ (m k : Nat), PartF (k : Int) ((k + m : Nat) : Int) ((List.range' k m).map fun (i : Nat) => ((i : Int), (i : Int))) := by
    intro m
    induction m with
    | zero => intro k; rfl
    | succ m ih =>
      intro k
      rw [List.range'_succ, List.map_cons]
      refine ⟨rfl, Int.le_refl _, ?_⟩
      have z := ih (k + 1)
      rw [show k + 1 + m = k + (m + 1) by omega] at z
      exact z
  have z := gen n 0
  unfold iniR
  rw [List.range_eq_range', ← Nat.zero_add n]
  simpa using z
/-- marks within the runs give the same runs -/
def InRs : List (Int × Int) → List Int → Prop
  | [], [] => True
  | p :: ps, c :: cs => p.1 ≤ c ∧ c ≤ p.2 ∧ InRs ps cs
  | _, _ => False
theorem goL_len : ∀ (here : List (Int × Int)) (cs : List Int), (goL here cs).length = cs.length
  | _, [] => rfl
  | here, c :: cs => by show (goL _ cs).length + 1 = _; rw [goL_len]; rfl
theorem inRs_self : ∀ {n : Nat} {here : List (Int × Int)} {cs : List Int}, PartF 0 n here → BdC n cs → InRs (goR here cs) cs
  | 0, _, [], _, _ => trivial
  | 0, _, _ :: _, _, h => h.elim
  | n + 1, _, [], _, h => h.elim
  | n + 1, here, c :: cs, hp, hb => by
    obtain ⟨c0, c1, hb⟩ := hb
    have hc : c < ((n + 1 : Nat) : Int) := by omega
    obtain ⟨b0, b1, b2, b3⟩ := run_bounds hp c0 hc
    have np := nextR_part hp c0 hc
    rw [show ((n + 1 : Nat) : Int) - 1 = (n : Int) by omega] at np
    exact ⟨b1, b2, inRs_self np hb⟩
end DL
set_option Elab.async false
set_option linter.all false
set_option maxRecDepth 100000
set_option autoImplicit false
namespace DL
open PySem PySem.Spec PyProof.Rows L2
theorem index_int {ms : List Int} {h : Int} (hm : h ∈ ms) : (zD ms).findIdx? (fun z => PyData.eqv z (.int h)) = some (ms.idxOf h) := by
  induction ms with
  | nil => cases hm
  | cons a t ih =>
    show (List.findIdx? _ (_ :: _)) = _
    rw [List.findIdx?_cons]
    have e : PyData.eqv (.int a) (.int h) = (a == h) := by simp [PyData.eqv]
    rw [e]
    by_cases q : a = h
    · subst q; simp
    · have q' : (a == h) = false := by simpa using q
      rw [q', List.idxOf_cons, q']
      simp only [Bool.false_eq_true, if_false]
      rcases List.mem_cons.mp hm with z | z
      · exact absurd z.symm q
      · rw [ih z]; rfl
theorem index_pair {ms : List (Int × Int)} {h : Int × Int} (hm : h ∈ ms) : (psD ms).findIdx? (fun z => PyData.eqv z (pD h)) = some (ms.idxOf h) := by
  induction ms with
  | nil => cases hm
  | cons a t ih =>
    show (List.findIdx? _ (_ :: _)) = _
    rw [List.findIdx?_cons]
    have e : PyData.eqv (pD a) (pD h) = (a == h) := by
      rw [Bool.eq_iff_iff, eqv_same (n := 1) (show plain 1 (pD a) = true from plain_ints [a.1, a.2] 0) (show plain 1 (pD h) = true from plain_ints [h.1, h.2] 0)]
      exact ⟨fun q => by rw [pD_inj q]; simp, fun q => by rw [eq_of_beq q]⟩
    rw [e]
    by_cases q : a = h
    · subst q; simp
    · have q' : (a == h) = false := by simpa using q
      rw [q', List.idxOf_cons, q']
      simp only [Bool.false_eq_true, if_false]
      rcases List.mem_cons.mp hm with z | z
      · exact absurd z.symm q
      · rw [ih z]; rfl
theorem zip2_map {α β : Type} (f : α → PyData) (g : β → PyData) : ∀ (xs : List α) (ys : List β), zip2 (xs.map f) (ys.map g) = (xs.zip ys).map (fun q => .tuple [f q.1, g q.2])
  | [], _ => rfl
  | _ :: _, [] => rfl
  | x :: xs, y :: ys => congrArg (PyData.tuple [f x, g y] :: ·) (zip2_map f g xs ys)
theorem cut_from {α : Type} (xs : List α) (n : Nat) : cut xs (some (n : Int)) none = xs.drop n := by
  unfold cut
  rw [HT.sIx_nat, HT.sIx_none]
  by_cases h : n ≤ xs.length
  · rw [Nat.min_eq_left h, List.take_of_length_le (by rw [List.length_drop]; exact Nat.le_refl _)]
  · rw [Nat.min_eq_right (by omega), List.drop_length, List.drop_eq_nil_of_le (by omega), List.take_nil]
theorem cut_to {α : Type} (xs : List α) (n : Nat) : cut xs none (some (n : Int)) = xs.take n := by
  unfold cut
  rw [HT.sIx_nat, HT.sIx_none, Nat.sub_zero, List.drop_zero]
  by_cases h : n ≤ xs.length
  · rw [Nat.min_eq_left h]
  · rw [Nat.min_eq_right (by omega), List.take_length, List.take_of_length_le (by omega)]
theorem cut_map {α β : Type} (f : α → β) (xs : List α) (a b : Option Int) : cut (xs.map f) a b = (cut xs a b).map f := by
  unfold cut
  rw [List.length_map, List.map_take, List.map_drop]
end DL
set_option Elab.async false
set_option linter.all false
set_option maxRecDepth 100000
set_option maxHeartbeats 1000000
set_option autoImplicit false
namespace DL
open PySem PySem.Spec PyProof.Rows L2
theorem callF_ok {f : Fn} {rs : List R} {q : Res} {g : G} {own : Bool} (h : f rs [] = .ok q []) (hb : boxes rs = []) (hr : rs.map (renR []) = rs) (hL : rs.all noL = true) : callF f own rs g = .ok (resF own g q).1 (resF own g q).2 := by
  unfold callF
  rw [hb, if_pos ⟨List.nodup_nil, fun j hj => (nomatch hj), hL⟩, hr, List.map_nil, h]
  rfl
theorem call_of {f : Fn} {rs : List R} {x : PyData} (h : f rs [] = .ok (.dat x) []) (g : G) (own : Bool) (hb : boxes rs = [] := by rfl) (hr : rs.map (renR []) = rs := by rfl) (hL : rs.all noL = true := by rfl) : callF f own rs g = .ok (.d x) g := callF_ok h hb hr hL
theorem call_lst {f : Fn} {rs : List R} {ds : List PyData} (h : f rs [] = .ok (.newC (.lst ds)) []) (g : G) (hb : boxes rs = [] := by rfl) (hr : rs.map (renR []) = rs := by rfl) (hL : rs.all noL = true := by rfl) : callF f false rs g = .ok (.d (.list ds)) g := callF_ok h hb hr hL
theorem call_newO {f : Fn} {rs : List R} {ct : Ct} (h : f rs [] = .ok (.newC ct) []) (g : G) (hb : boxes rs = [] := by rfl) (hr : rs.map (renR []) = rs := by rfl) (hL : rs.all noL = true := by rfl) : callF f true rs g = .ok (.o g.ce.length) ⟨g.sl, g.ce ++ [ct]⟩ := callF_ok h hb hr hL
theorem callB_ok {f : Fn} {rs : List R} {q : Res} {g : G} {own : Bool} {j : Nat} {ct ct' : Ct} (hj : g.ce[j]? = some ct) (ha : aliveB (some ct) = true) (h : f (.o 0 :: rs) [ct] = .ok q [ct']) (hb : boxes rs = []) (hr : rs.map (renR [j]) = rs) (hL : (R.o j :: rs).all noL = true) :
    callF f own (.o j :: rs) g = .ok (resF own ⟨g.sl, g.ce.set j ct'⟩ q).1 (resF own ⟨g.sl, g.ce.set j ct'⟩ q).2 := by
  have hb' : boxes (.o j :: rs) = [j] := by
    unfold boxes at hb ⊢
    rw [List.filterMap_cons]
    show j :: _ = _
    rw [hb]
  unfold callF
  rw [hb', if_pos ⟨by simp, fun i hi => by rw [List.mem_singleton.mp hi, hj]; exact ha, hL⟩, List.map_cons, hr]
  have e1 : renR [j] (.o j) = .o 0 := by show R.o ([j].idxOf j) = _; simp
  have e2 : [j].map (fun j => g.ce.getD j .dead) = [ct] := by
    rw [List.map_cons, List.map_nil, List.getD_eq_getElem?_getD, hj]; rfl
  rw [e1, e2, h]
  rfl
theorem callB_of {f : Fn} {rs : List R} {x : PyData} {j : Nat} {ds ds' : List PyData} (h : f (.o 0 :: rs) [.lst ds] = .ok (.dat x) [.lst ds']) {g : G} (own : Bool) (hj : g.ce[j]? = some (.lst ds)) (hb : boxes rs = [] := by rfl) (hr : rs.map (renR [j]) = rs := by rfl) (hL : (R.o j :: rs).all noL = true := by rfl) :
    callF f own (.o j :: rs) g = .ok (.d x) ⟨g.sl, g.ce.set j (.lst ds')⟩ := callB_ok hj rfl h hb hr hL
/-- a while whose test changes nothing -/
theorem sWh_inv0 {t : FT} {u : FS} {g : G} (I : Nat → G → Prop) (J : G → Prop) (n : Nat) (h0 : I n g) (hs : ∀ n g, I n g → (t g = .ok false g ∧ J g) ∨ ∃ g2 m, t g = .ok true g ∧ u g = .ok .nx g2 ∧ m < n ∧ I m g2) : ∃ g', sWh t u g = .ok .nx g' ∧ J g' :=
  sWh_inv I J n h0 fun n g hI => (hs n g hI).elim (fun h => .inl ⟨g, h⟩) fun ⟨g2, m, h1, h2, h3, h4⟩ => .inr ⟨g, g2, m, h1, .inl h2, h3, h4⟩
theorem any_emb {α : Type} [DecidableEq α] (emb : α → PyData) (h : ∀ a b, PyData.eqv (emb a) (emb b) = decide (a = b)) (ns : List α) (i : α) : ((ns.map emb).any fun z => PyData.eqv z (emb i)) = decide (i ∈ ns) := by
  rw [Bool.eq_iff_iff, List.any_eq_true, decide_eq_true_eq]
  constructor
  · rintro ⟨x, hx, e⟩
    obtain ⟨n, hn, rfl⟩ := List.mem_map.mp hx
    rw [h] at e
    rw [← of_decide_eq_true e]
    exact hn
  · intro hi
    exact ⟨_, List.mem_map.mpr ⟨i, hi, rfl⟩, by rw [h]; simp⟩
@[simp] theorem any_zD (ns : List Int) (i : Int) : ((zD ns).any fun z => PyData.eqv z (.int i)) = decide (i ∈ ns) := any_emb PyData.int (fun _ _ => eqv_int) ns i
@[simp] theorem any_psD (ps : List (Int × Int)) (p : Int × Int) : ((psD ps).any fun z => PyData.eqv z (pD p)) = decide (p ∈ ps) := (any_emb pD (fun _ _ => eqv_pD) ps p).trans (decide_eq_decide.mpr Iff.rfl)
theorem rng0 (n : Nat) : rng 0 n = (List.range n).map (fun (i : Nat) => PyData.int (i : Int)) := by
  unfold rng
  exact List.map_congr_left fun i _ => by rw [Int.zero_add]
theorem rOk_of {i : Int} (h1 : -1000000000 ≤ i) (h2 : i ≤ 1000000000) : rOk i = true := decide_eq_true ⟨by omega, by omega⟩
theorem atI_cast {α : Type} (xs : List α) (n : Nat) : atI xs (n : Int) = xs[n]? := by
  unfold atI ixN
  by_cases h : n < xs.length
  · simp [show ¬ ((n : Int) < 0) by omega, h]
  · simp [show ¬ ((n : Int) < 0) by omega, h]
@[simp] theorem atI_0 {α : Type} (xs : List α) : atI xs 0 = xs[0]? := atI_cast xs 0
@[simp] theorem atI_1 {α : Type} (xs : List α) : atI xs 1 = xs[1]? := atI_cast xs 1
@[simp] theorem atI_2 {α : Type} (xs : List α) : atI xs 2 = xs[2]? := atI_cast xs 2
@[simp] theorem atI_m1 {α : Type} (xs : List α) (x : α) : atI (xs ++ [x]) (-1) = some x := L2.atI_last xs x
end DL
set_option Elab.async false
set_option linter.all false
set_option maxRecDepth 100000
set_option autoImplicit false
namespace DL
open PySem PySem.Spec PyProof.Rows L2
theorem log_small {b : Int} (h0 : 0 < b) (h : b ≤ 10 ^ 100) : b.natAbs.log2 < 9000 := by
  have h1 : b.natAbs ≤ 10 ^ 100 := by omega
  have h2 : b.natAbs < 2 ^ 9000 := Nat.lt_of_le_of_lt h1 (by decide +kernel)
  exact (Nat.log2_lt (by omega)).mpr h2
theorem set_last {α : Type} {l : List α} {x y : α} : (l ++ [x]).set l.length y = l ++ [y] := by
  rw [List.set_append_right _ _ (Nat.le_refl _), Nat.sub_self]
  rfl
/-- a box of draws; at most n draws out of its own numbers so far -/
def BoxOk (n : Nat) (bx : List PyData) : Prop := ∃ a b c : Int, bx = [.int a, .int b, .int c] ∧ 0 ≤ a ∧ 0 ≤ b ∧ b < 2 ^ 62 ∧ 0 ≤ c ∧ c ≤ n
theorem BoxOk.mono {n m : Nat} {bx : List PyData} (h : BoxOk n bx) (hm : n ≤ m) : BoxOk m bx := by
  obtain ⟨a, b, c, e, h1, h2, h3, h4, h5⟩ := h
  exact ⟨a, b, c, e, h1, h2, h3, h4, by omega⟩
def boxM (x : Int) (j : Nat) : List PyData := [.int ((if x < 0 then -x else x) * (if decide ((10 : Int) ^ (18 : Int).toNat ≤ (if x < 0 then -x else x)) = true then 1 else 0)), .int (x % 2305843009213693951 + 39373 * (j : Int) + 29), .int 0]
theorem boxM_ok (x : Int) (j : Nat) (hj : j < 64) : BoxOk 0 (boxM x j) := by
  refine ⟨_, _, _, rfl, ?_, ?_, ?_, Int.le_refl _, Int.le_refl _⟩
  · refine Int.mul_nonneg ?_ ?_
    · split <;> omega
    · split <;> omega
  · have := Int.emod_nonneg x (show (2305843009213693951 : Int) ≠ 0 by decide)
    omega
  · have := Int.emod_lt_of_pos x (show (0 : Int) < 2305843009213693951 by decide)
    omega
end DL
set_option Elab.async false
set_option linter.all false
set_option maxRecDepth 100000
set_option autoImplicit false
namespace DL
open PySem PySem.Spec PyProof.Rows L2
/-- a row with marks within the runs -/
structure Mate (ns t : List Int) : Prop where
  nd : t.Nodup
  sr : srt t = srt ns
  rn : runsM t = runsM ns
  len : t.length = ns.length
theorem InRs.len : ∀ {ps : List (Int × Int)} {ms : List Int}, InRs ps ms → ms.length = ps.length
  | [], [], _ => rfl
  | _ :: _, _ :: _, h => by rw [List.length_cons, List.length_cons, InRs.len h.2.2]
  | [], _ :: _, h => h.elim
  | _ :: _, [], h => h.elim
def tupD (l : List Int) : PyData := .tuple (zD l)
end DL
set_option Elab.async false
set_option linter.all false
set_option maxRecDepth 100000
set_option autoImplicit false
namespace DL
open PySem PySem.Spec PyProof.Rows L2
/-- two indices in one part -/
def Jn (ps : List (Int × Int)) (i : Int) : Prop := ∃ q ∈ ps, q.1 ≤ i ∧ i + 1 ≤ q.2
theorem part_mem : ∀ {ps : List (Int × Int)} {a b : Int} {q : Int × Int}, PartF a b ps → q ∈ ps → a ≤ q.1 ∧ q.1 ≤ q.2 ∧ q.2 + 1 ≤ b
  | [], _, _, _, _, h => by cases h
  | p :: r, a, b, q, hp, h => by
    rcases List.mem_cons.mp h with e | e
    · subst e
      have := hp.2.2.le
      have := hp.1
      exact ⟨by omega, hp.2.1, by omega⟩
    · have z := part_mem hp.2.2 e
      have := hp.1
      have := hp.2.1
      exact ⟨by omega, z.2.1, z.2.2⟩
/-- the row and the row after the exchange -/
abbrev rowE (A : List Int) (x : Int) (M : List Int) (y : Int) (D : List Int) : List Int := A ++ x :: (M ++ y :: D)
end DL
set_option Elab.async false
set_option linter.all false
set_option maxRecDepth 100000
set_option autoImplicit false
namespace DL
open PySem PySem.Spec PyProof.Rows L2
end DL
set_option Elab.async false
set_option linter.all false
set_option maxRecDepth 100000
set_option autoImplicit false
namespace DL
open PySem PySem.Spec PyProof.Rows L2
end DL
namespace DL
open PySem PySem.Spec PyProof.Rows L2
theorem rngN (i m : Nat) : rng ((i : Nat) : Int) m = (List.range' i m).map (fun (j : Nat) => PyData.int (j : Int)) := by
  unfold rng
  rw [List.range'_eq_map_range, List.map_map]
  exact List.map_congr_left fun t _ => by show PyData.int _ = PyData.int _; congr 1
end DL
namespace DL
open PySem PySem.Spec PyProof.Rows L2
theorem Mate.trans {a b c : List Int} (h1 : Mate a b) (h2 : Mate b c) : Mate a c := ⟨h2.nd, h2.sr.trans h1.sr, h2.rn.trans h1.rn, h2.len.trans h1.len⟩
end DL
namespace DL
open PySem PySem.Spec PyProof.Rows L2
end DL
set_option Elab.async false
set_option linter.all false
set_option maxRecDepth 100000
set_option autoImplicit false
namespace DL
theorem runs_in {t : List Int} (hn : t.Nodup) : InRs (runsM t) (codesM t) := by
  unfold runsM runsC
  rw [codes_len]
  exact inRs_self (iniR_part _) (codes_bd t.length t rfl hn)
theorem Mate.inr {ns t : List Int} (h : Mate ns t) : InRs (runsM ns) (codesM t) := by rw [← h.rn]; exact runs_in h.nd
theorem Mate.perm {ns t : List Int} (h : Mate ns t) : ns.Perm t := (srt_perm ns).symm.trans (h.sr ▸ srt_perm t)
theorem Mate.symm {ns t : List Int} (h : Mate ns t) (hn : ns.Nodup) : Mate t ns := ⟨hn, h.sr.symm, h.rn.symm, h.len.symm⟩
end DL
set_option Elab.async false
set_option linter.all false
set_option maxRecDepth 100000
set_option maxHeartbeats 4000000
set_option autoImplicit false
namespace DL
open PySem PySem.Spec PyProof.Rows L2
theorem Calm.un65 {k : Nat} {A : Around} (c : Calm k A) : A.units + 65 < cLine := DL.un65 c.room
theorem Calm.un1 {k : Nat} {A : Around} (c : Calm k A) : A.units + 1 < cLine := DL.un1 c.room
theorem fnFx {P : Program} {w : World} {fr : PySem.W.Frag} {mg : Str → Option Value} {base : Heap} {cl : Str → Addr} {x qual : Str} {st : Stmt} {f : Addr} {fd : FuncData} {N ps : List Str} {k : Nat} {u : FS} (F : Fun fr x qual st f fd) (S : FnScope N ps (defScope st))
    (body : ∀ (cdv : Value) (A : Around) (outer : List Env) (s : Shared) (H : Hp) (E : XK) (ρ : Root) (dx : DX), ρ.cl = cl → Calm k (A.deeper (envOfC qual (defScope st) s.heap.objs.size f cdv)) →
      Takes (cxOf (L2.CX P w) P w fr mg base N qual (defScope st) f cdv A outer s H E) (liftX ⟨fr, ρ⟩ dx) →
      ∃ v, PFSs ρ (cxOf (L2.CX P w) P w fr mg base N qual (defScope st) f cdv A outer s H E) dx (defBody st) v ∧ v = u) : FnG P w fr mg base (L2.CX P w) (k + 1) f fd ps (spF fr cl ps.length (mkFn N.length u)) :=
  fnF F S fun cdv A outer s H E ρ dx hcl hr tk => by
    obtain ⟨v, h, e⟩ := body cdv A outer s H E ρ dx hcl hr tk
    rw [← e]
    exact h
theorem takes_no {X : Cx} {K : KR} : Takes X (liftX K dx0) := fun u s' ⟨_, _, _, _, _, _, _, _, _, _, _, _, _, _, _, _, w⟩ => by
  obtain ⟨_, _, _, _, _, _, _, h, _⟩ := w
  exact h.elim
section
variable {P : Program} {w : World} {K : PySem.W.Frag} {mg mb : Str → Option Value} {k : Nat} {fa a : Addr} {fd : FuncData} {x : Str} {sp : Sp} {s₁ : Shared} {vs : List Value} {ns : List Int}
/-- what the law's call must end with -/
abbrev Won (s₁ : Shared) : Except Value Flow → Shared → Prop := fun r s' => r = .ok (.ret (.bool true)) ∧ OldK s₁.heap s'.heap ∧ s'.os = s₁.os ∧ AllBare s'.gens
/-- .. while H, which tracks the script alone, stands for the heap -/
theorem law_over (KX : K.In s₁.heap) (hns : s₁.heap.Ns mainGlobals mg) (hb : s₁.heap.Ns builtinsNs mb) (hbb : ∀ x : Str, x ≠ "__name__" → mb x = bootBuiltins x) (hlim : s₁.heap.NoLimit) (hg : s₁.gens = #[])
    (ha : s₁.heap.get? a = some { cls := .type "list", data := .seq vs.toArray }) (hr : Room k callerA)
    (F : ∀ base : Heap, K.In base → base.Ns mainGlobals mg → FnG P w K mg base (L2.CX P w) k fa fd [x] sp) (hbind : ∀ (s : Shared) (u : Value), BindsTo s fd ⟨[u], []⟩ [(x, u)])
    {H : Hp} (hsp : sp [.ref a] H (fun v _ => v = .bl true) fun _ _ _ => False) (hok : HOk P w H s₁.heap) (only : ∀ b u, H b = some u → b = a ∧ K.lookup a = none ∧ ∃ o xs, u = .frz o (.lst xs)) :
    codeAny (model P w) callerA (.call (.ref fa) ⟨[.ref a], []⟩) (Won s₁) s₁ := by
  have plain : ∀ {b : Addr} {o : Obj}, s₁.heap.get? b = some o → (∃ es ep, o.data = .dict es ep) ∨ K.lookup b = some o → H b = none := fun {b o} e h => by
    cases q : H b with
    | none => rfl
    | some u =>
      obtain ⟨e1, e2, _⟩ := only b u q
      subst e1
      rcases h with ⟨es, ep, d⟩ | h
      · rw [ha] at e
        cases e
        cases (show Data.seq vs.toArray _ = Data.dict es ep from d)
      · rw [e2] at h
        cases h
  have names : ∀ {b : Addr} {m : Str → Option Value}, s₁.heap.Ns b m → (hidT s₁.heap H).Ns b m := fun {b m} ⟨o, es, ep, e, d, r⟩ => ⟨o, es, ep, hidT_get e (plain e (.inl ⟨es, ep, d⟩)), d, r⟩
  have kin : K.In (hidT s₁.heap H) := fun b o e => hidT_get (KX b o e) (plain (KX b o e) (.inr e))
  obtain ⟨mc, l1, l2⟩ := hlim
  have e0 : Env0 P w K mg (hidT s₁.heap H) callerA [] s₁ H := ⟨rfl, ⟨kin, names hns, ⟨mb, names hb, hbb⟩, ⟨mc, names l1, l2⟩⟩, fun b o e => of_hidT e, Nat.le_of_eq (hidT_size _ _), trivial, fun b hb => (List.not_mem_nil hb).elim, hok, .of_eq hg⟩
  refine codeAny_mono ((F _ kin (names hns)).goes callerA [] s₁ H ⟨[.ref a], []⟩ [.ref a] [.ref a] _ _ ⟨hr, rfl⟩ e0 (hbind s₁ (.ref a)) (.cons rfl .nil) hsp) fun r s' h => ?_
  match r, h with
  | .error e, h =>
    obtain ⟨_, _, _, _, _, _, _, _, _, _, _, _, z⟩ := h
    exact z.elim
  | .ok .next, h => exact h.elim
  | .ok .brk, h => exact h.elim
  | .ok .cont, h => exact h.elim
  | .ok (.ret u), ⟨v, H', os, bare, un, hok', r', q⟩ =>
    have q : v = .bl true := q
    subst q
    obtain rfl : u = Value.bool true := r'
    refine ⟨rfl, OldK.of_keep fun b o e => ?_, os, bare⟩
    cases q : H b with
    | none => exact un.keep b o e q (fun z => (List.not_mem_nil z).elim) (by simp)
    | some z =>
      obtain ⟨_, _, ob, xs, rfl⟩ := only b z q
      obtain ⟨e1, _⟩ := hok b _ q
      obtain ⟨e2, _⟩ := hok' b _ (un.frzs b ob _ q)
      rw [e] at e1
      cases e1
      exact e2
theorem law_done (KX : K.In s₁.heap) (hns : s₁.heap.Ns mainGlobals mg) (hb : s₁.heap.Ns builtinsNs mb) (hbb : ∀ x : Str, x ≠ "__name__" → mb x = bootBuiltins x) (hlim : s₁.heap.NoLimit) (hg : s₁.gens = #[])
    (ha : s₁.heap.get? a = some { cls := .type "list", data := .seq vs.toArray }) (hi : IntsAre vs ns) (hl : ns.length ≤ sizeLine) (hr : Room k callerA)
    (F : ∀ base : Heap, K.In base → base.Ns mainGlobals mg → FnG P w K mg base (L2.CX P w) k fa fd [x] sp) (hbind : ∀ (s : Shared) (u : Value), BindsTo s fd ⟨[u], []⟩ [(x, u)])
    (hsp : ∀ H : Hp, SqL K H a (ns.map V.int) → sp [.ref a] H (fun v _ => v = .bl true) fun _ _ _ => False) : codeAny (model P w) callerA (.call (.ref fa) ⟨[.ref a], []⟩) (Won s₁) s₁ := by
  have rv := vals_ints hi
  cases hk : K.lookup a with
  | some o =>
    have e := KX a o hk
    rw [ha] at e
    cases e
    refine law_over KX hns hb hbb hlim hg ha hr F hbind (hsp (fun _ => none) (.inr ⟨_, vs.toArray, _, hk, rfl, rfl, rfl, ?_, ?_⟩)) (fun b u z => nomatch z) fun b u z => nomatch z
    · rw [List.size_toArray, hi.length]; exact hl
    · simpa using rv
  | none =>
    have at_ : ∀ {b : Addr} {u : HO}, upd (fun _ => none) a (.frz { cls := .type "list", data := .seq vs.toArray } (.lst (ns.map V.int))) b = some u → b = a ∧ u = .frz { cls := .type "list", data := .seq vs.toArray } (.lst (ns.map V.int)) := fun {b u} z => by
      by_cases hb : b = a
      · subst hb
        rw [upd_same] at z
        exact ⟨rfl, (Option.some.inj z).symm⟩
      · rw [upd_ne hb] at z
        cases z
    refine law_over KX hns hb hbb hlim hg ha hr F hbind (hsp (upd (fun _ => none) a (.frz { cls := .type "list", data := .seq vs.toArray } (.lst (ns.map V.int)))) (.inl (.inr ⟨_, upd_same⟩))) (fun b u z => ?_) fun b u z => ?_
    · obtain ⟨rfl, rfl⟩ := at_ z
      exact ⟨ha, by rw [List.length_map]; exact hl, vs, _, rv, ha⟩
    · obtain ⟨rfl, rfl⟩ := at_ z
      exact ⟨rfl, hk, _, _, rfl⟩
end
/-- the law's own call -/
theorem law_start {K : PySem.W.Frag} {cl : Str → Addr} {H : Hp} {a : Addr} {ns : List Int} {f : Fn} {E : XK} (hS : SqL K H a (ns.map V.int)) (hf : f [.s ns] [] = .ok (.dat (.bool true)) []) : spF K cl 1 f [.ref a] H (fun v _ => v = .bl true) E := by
  refine ⟨H, fun _ => none, [], [], [.s ns], rfl, ?_, .cons ⟨a, rfl, hS⟩ .nil, (by rw [hf]; intro z; cases z), ?_, ?_⟩
  · exact { rb := Same.refl _, ro := (fun _ _ e => e), rp := rfl, ot := (fun _ _ e => nomatch e), fb := Same.refl _, bh := Same.refl _, fo := (fun _ _ e => nomatch e), pre := ⟨[], rfl⟩, len := rfl, nd := List.nodup_nil, lv := (fun _ h => nomatch h), nb := (fun j a ct h => by simp at h), ce := (fun j a ct h => by simp at h), sl := (fun i r h => by simp at h), tm := (fun _ h => nomatch h), sln := rfl }
  · intro v H' q bx' B' al' ce' e _ _ hr
    rw [hf] at e
    cases e
    exact dq_bool hr
  · intro n cls d H' bx' B' al' ce' e
    rw [hf] at e
    cases e
theorem walkF {l : PySem.W.OpenLaw} {n k : Nat} {q : Program} {loose : List Str} {XP : (Str → Option Value) → Heap → Prop} {YP : World → Heap → Prop} {d : DefRec} {x : Str} {fn : Fn}
    (hn : l.most = some n) (hn2 : n ≤ sizeLine) (hdf : d.params.defaults = []) (hr : Room k callerA) (hf : ∀ ns : List Int, ns.length ≤ n → fn [.s ns] [] = .ok (.dat (.bool true)) [])
    (F : ∀ (w : World) (mg : Str → Option Value) (fa : Addr) (h : Heap), YP w h → h.Ns mainGlobals mg → mg d.name = some (.ref fa) →
      ∃ (K : PySem.W.Frag) (fd : FuncData) (cl : Str → Addr), K.In h ∧ (∀ (s : Shared) (u : Value), BindsTo s fd ⟨[u], []⟩ [(x, u)]) ∧
        ∀ base : Heap, K.In base → base.Ns mainGlobals mg → FnG l.prog w K mg base (L2.CX l.prog w) k fa fd [x] (spF K cl 1 fn)) :
    PySem.W.WalkO q loose XP YP l.row.toRowW d [] (fun f vs => PySem.call f vs) := by
  refine Att.attach_call hn hdf fun w s₀ s₁ mg mb fa o pm cd doc a vs ns G Y ho hd hcd hmg hobj hints hlen hg => ?_
  obtain ⟨K, fd, cl, KX, hb, hF⟩ := F w mg fa _ Y G.T.g hmg
  exact law_done KX G.T.g G.T.b G.T.builtins G.T.nolimit hg hobj hints (Nat.le_trans hlen hn2) hr hF hb fun H hS => law_start hS (hf ns hlen)
end DL
set_option Elab.async false
set_option linter.all false
set_option maxRecDepth 100000
set_option maxHeartbeats 4000000
set_option autoImplicit false
namespace DL
open PySem PySem.Spec PyProof.Rows L2
@[simp] theorem isa_int_int : isaB "int" "int" = true := by decide
@[simp] theorem isa_int_bool : isaB "int" "bool" = false := by decide
@[simp] theorem isa_int_list : isaB "int" "list" = false := by decide
@[simp] theorem isa_int_tuple : isaB "int" "tuple" = false := by decide
@[simp] theorem isa_int_str : isaB "int" "str" = false := by decide
@[simp] theorem isa_bool_int : isaB "bool" "int" = true := by decide
@[simp] theorem isa_bool_bool : isaB "bool" "bool" = true := by decide
@[simp] theorem isa_bool_list : isaB "bool" "list" = false := by decide
@[simp] theorem isa_bool_tuple : isaB "bool" "tuple" = false := by decide
@[simp] theorem isa_bool_str : isaB "bool" "str" = false := by decide
@[simp] theorem isa_list_int : isaB "list" "int" = false := by decide
@[simp] theorem isa_list_bool : isaB "list" "bool" = false := by decide
@[simp] theorem isa_list_list : isaB "list" "list" = true := by decide
@[simp] theorem isa_list_tuple : isaB "list" "tuple" = false := by decide
@[simp] theorem isa_list_str : isaB "list" "str" = false := by decide
@[simp] theorem isa_tuple_int : isaB "tuple" "int" = false := by decide
@[simp] theorem isa_tuple_bool : isaB "tuple" "bool" = false := by decide
@[simp] theorem isa_tuple_list : isaB "tuple" "list" = false := by decide
@[simp] theorem isa_tuple_tuple : isaB "tuple" "tuple" = true := by decide
@[simp] theorem isa_tuple_str : isaB "tuple" "str" = false := by decide
@[simp] theorem isa_str_int : isaB "str" "int" = false := by decide
@[simp] theorem isa_str_bool : isaB "str" "bool" = false := by decide
@[simp] theorem isa_str_list : isaB "str" "list" = false := by decide
@[simp] theorem isa_str_tuple : isaB "str" "tuple" = false := by decide
@[simp] theorem isa_str_str : isaB "str" "str" = true := by decide
@[simp] theorem isa_NoneType_int : isaB "NoneType" "int" = false := by decide
@[simp] theorem isa_NoneType_bool : isaB "NoneType" "bool" = false := by decide
@[simp] theorem isa_NoneType_list : isaB "NoneType" "list" = false := by decide
@[simp] theorem isa_NoneType_tuple : isaB "NoneType" "tuple" = false := by decide
@[simp] theorem isa_NoneType_str : isaB "NoneType" "str" = false := by decide
def opIsB : Op2 := fun _ r1 r2 => match r1, r2 with
  | .d (.bool a), .d (.bool b) => some (.d (.bool (decide (a = b))))
  | .d .none, .d (.bool _) => some (.d (.bool false))
  | .d (.int _), .d (.bool _) => some (.d (.bool false))
  | _, _ => none
@[simp] theorem opIsB_b (g : G) (a b : Bool) : opIsB g (.d (.bool a)) (.d (.bool b)) = some (.d (.bool (decide (a = b)))) := id rfl
@[simp] theorem opIsB_n (g : G) (b : Bool) : opIsB g (.d .none) (.d (.bool b)) = some (.d (.bool false)) := id rfl
@[simp] theorem opIsB_i (g : G) (i : Int) (b : Bool) : opIsB g (.d (.int i)) (.d (.bool b)) = some (.d (.bool false)) := id rfl
end DL
set_option Elab.async false
set_option linter.all false
set_option maxRecDepth 100000
set_option autoImplicit false
namespace DL
open PySem PySem.W PySem.Spec PySem.Calls PyProof.Rows
end DL
set_option Elab.async false
set_option linter.all false
set_option maxRecDepth 100000
set_option maxHeartbeats 2000000
set_option autoImplicit false
namespace DL
open PySem PySem.Spec PyProof.Rows L2
inductive NmL (X : Cx) : List Expr → List Value → Prop
  | nil : NmL X [] []
  | cons {x : Str} {c : Value} {np : Pos} {es : List Expr} {cs : List Value} (hc : Names X x c) (r : NmL X es cs) : NmL X (.Name x np :: es) (c :: cs)
theorem NmL.len {X : Cx} {es : List Expr} {cs : List Value} (h : NmL X es cs) : cs.length = es.length := by
  induction h with
  | nil => rfl
  | cons _ _ ih => simp [ih]
end DL
set_option Elab.async false
set_option linter.all false
set_option maxRecDepth 100000
set_option maxHeartbeats 4000000
set_option autoImplicit false
namespace DL
open PySem PySem.Spec PyProof.Rows L2 PySem.W
end DL
set_option Elab.async false
set_option linter.all false
set_option maxRecDepth 100000
set_option maxHeartbeats 4000000
set_option autoImplicit false
namespace DL
open PySem PySem.Spec PyProof.Rows L2
end DL
set_option Elab.async false
set_option linter.all false
set_option maxRecDepth 100000
set_option maxHeartbeats 4000000
set_option autoImplicit false
namespace DL
open PySem PySem.Spec PyProof.Rows L2
def okSh (x : PyData) : Bool := x.showable && decide (x.shown.length ≤ 4000) && decide (x.depth ≤ 60)
/-- what an f-string can show -/
def showsD : PyData → Bool
  | .int i => decide (i.natAbs.log2 < 1920)
  | .tuple [.int i, .int j] => decide (i.natAbs.log2 < 1920 ∧ j.natAbs.log2 < 1920)
  | .list ds => okSh (.list ds)
  | _ => false
def sRaise1 (cls f : Str) (fs : FAr) : FS := fun g => (fs g).bind fun rs g1 => match rs with
  | [.d x] => if showsD x then .ex ⟨cls, [(f, x)]⟩ g1 else .no
  | _ => .no
def sRaise0 (cls : Str) : FS := fun g => .ex ⟨cls, []⟩ g
end DL
set_option Elab.async false
set_option linter.all false
set_option maxRecDepth 100000
set_option maxHeartbeats 4000000
set_option autoImplicit false
namespace DL
open PySem PySem.Spec PyProof.Rows L2
def sTry (hit : Str → Option Bool) (i j : Nat) (u : FS) : FS := fun g => match u g with
  | .ex n g1 => match hit n.cls with
    | some true => if i < g1.sl.length then .ok .nx ⟨(g1.sl.set j (some (.x n))).set i none, g1.ce⟩ else .no
    | some false => .ex n g1
    | none => .no
  | o => o
end DL
set_option Elab.async false
set_option linter.all false
set_option maxRecDepth 100000
set_option maxHeartbeats 4000000
set_option autoImplicit false
namespace DL
open PySem PySem.Spec PyProof.Rows L2
def fAttr (cs : List Str) (f : Str) (e : FE) : FE := fun g => (e g).bind fun r g1 => match r with
  | .x n => if cs.contains n.cls then match n.fld.lookup f with
      | some x => .ok (.d x) g1
      | none => .no else .no
  | _ => .no
end DL
set_option Elab.async false
set_option linter.all false
set_option maxRecDepth 100000
set_option maxHeartbeats 4000000
set_option autoImplicit false
namespace DL
open PySem PySem.Spec PySem.Calls PyProof.Rows PySem.W
end DL
set_option Elab.async false
set_option linter.all false
set_option maxRecDepth 100000
set_option maxHeartbeats 4000000
set_option autoImplicit false
namespace DL
open PySem PySem.Spec PyProof.Rows L2
def fIsX (t : Str → Option Bool) (t0 : Option Bool) (e : FE) : FE := fun g => (e g).bind fun r g1 => match r with
  | .x n => ofO ((t n.cls).map fun b => .d (.bool b)) g1
  | .d .none => ofO (t0.map fun b => .d (.bool b)) g1
  | _ => .no
end DL
set_option Elab.async false
set_option linter.all false
set_option maxRecDepth 100000
set_option maxHeartbeats 4000000
set_option autoImplicit false
namespace DL
open PySem PySem.Spec PyProof.Rows L2
end DL
set_option Elab.async false
set_option linter.all false
set_option maxRecDepth 100000
set_option maxHeartbeats 4000000
set_option autoImplicit false
namespace DL
open PySem PySem.Spec PyProof.Rows L2
abbrev Fx := PySem.W.Frag → Bool
def obsX (fx : List Fx) (fa : List He.Fa) (fn : List He.DefD) (K : PySem.W.Frag) : He.AlD := ((fx.all fun f => f K) && (He.obsD fa fn K).1, (He.obsD fa fn K).2)
def SaysX (fx : List Fx) (fa : List He.Fa) (fn : List He.DefD) (K : PySem.W.Frag) : Prop := obsX fx fa fn K = He.valD fn
def obsXG (n : Nat) (fx : List Fx) (fa : List He.Fa) (fn : List He.DefD) (g : Addr → Option Obj) : He.AlD := obsX fx fa fn (He.frG g (He.asD g n))
def hookX (n : Nat) (fx : List Fx) (fa : List He.Fa) (fn : List He.DefD) : PySem.W.Hook where
  α := He.AlD
  obs := fun s => obsXG n fx fa fn s.heap.get?
  val := fun _ => He.valD fn
  says := fun _ h => ∃ K : PySem.W.Frag, K.In h ∧ SaysX fx fa fn K
  of := fun _ _ e => ⟨_, He.frG_in, e⟩
  keeps := fun _ _ _ ⟨K, hK, c⟩ k => ⟨K, PySem.W.Frag.In.keeps hK k, c⟩
theorem obsXG_eq {n : Nat} {fx : List Fx} {fa : List He.Fa} {fn : List He.DefD} {g : Addr → Option Obj} {s : Shared} (h : ∀ a, g a = s.heap.get? a) : obsXG n fx fa fn g = (hookX n fx fa fn).obs s := by
  have e : g = s.heap.get? := funext h
  rw [e] <;> rfl
section
variable {fx : List Fx} {fa : List He.Fa} {fn : List He.DefD} {K : PySem.W.Frag}
theorem SaysX.old (c : SaysX fx fa fn K) : He.SaysD fa fn K := by
  have c1 : ((fx.all fun f => f K) && (He.obsD fa fn K).1) = true := congrArg (fun z : He.AlD => z.1) (show obsX fx fa fn K = He.valD fn from c)
  have c2 : (obsX fx fa fn K).2 = (He.valD fn).2 := congrArg (fun z : He.AlD => z.2) (show obsX fx fa fn K = He.valD fn from c)
  have c3 : (He.obsD fa fn K).1 = true := (Bool.and_eq_true_iff.mp c1).2
  exact Prod.ext c3 c2
theorem SaysX.own (c : SaysX fx fa fn K) (i : Nat) {f : Fx} (h : fx[i]? = some f := by rfl) : f K = true := by
  have c1 : ((fx.all fun f => f K) && (He.obsD fa fn K).1) = true := congrArg (fun z : He.AlD => z.1) (show obsX fx fa fn K = He.valD fn from c)
  exact List.all_eq_true.mp (Bool.and_eq_true_iff.mp c1).1 f (List.mem_of_getElem? h)
end
end DL
set_option Elab.async false
set_option linter.all false
set_option maxRecDepth 100000
set_option maxHeartbeats 4000000
set_option autoImplicit false
namespace DL
open PySem PySem.Spec PyProof.Rows L2
/-- classes by their names -/
inductive NmV (X : Cx) : List Expr → List V → List Value → Prop
  | nil : NmV X [] [] []
  | cons {x : Str} {cV : V} {c : Value} {np : Pos} {es : List Expr} {vs : List V} {cs : List Value} (k : ClsV cV c) (hc : Names X x c) (r : NmV X es vs cs) : NmV X (.Name x np :: es) (cV :: vs) (c :: cs)
theorem NmV.cls {X : Cx} {es : List Expr} {vs : List V} {cs : List Value} (h : NmV X es vs cs) : Paired ClsV vs cs := by
  induction h with
  | nil => exact .nil
  | cons k _ _ ih => exact .cons k ih
end DL
set_option Elab.async false
set_option linter.all false
set_option maxRecDepth 100000
set_option maxHeartbeats 4000000
set_option autoImplicit false
namespace DL
open PySem PySem.Spec PyProof.Rows L2
def permI {α : Type} (idx : List Nat) (l : List α) : List α := idx.filterMap fun i => l[i]?
theorem permI_paired {α β : Type} {F : α → β → Prop} {xs : List α} {ys : List β} (h : Paired F xs ys) : ∀ idx : List Nat, Paired F (permI idx xs) (permI idx ys)
  | [] => .nil
  | i :: idx => by
    have ih := permI_paired h idx
    unfold permI at ih ⊢
    rw [List.filterMap_cons, List.filterMap_cons]
    have gen : ∀ {xs : List α} {ys : List β}, Paired F xs ys → ∀ i : Nat, (xs[i]? = none ∧ ys[i]? = none) ∨ ∃ a b, xs[i]? = some a ∧ ys[i]? = some b ∧ F a b := by
      intro xs ys hp
      induction hp with
      | nil => intro i; exact .inl ⟨rfl, rfl⟩
      | cons a b ih =>
        intro i
        cases i with
        | zero => exact .inr ⟨_, _, rfl, rfl, a⟩
        | succ i => exact ih i
    rcases gen h i with ⟨e1, e2⟩ | ⟨a, b, e1, e2, hab⟩
    · rw [e1, e2]; exact ih
    · rw [e1, e2]; exact .cons hab ih
def gK (idx : List Nat) {α : Type} : List α → List α → List α
  | [], ws => permI idx ws
  | _ :: _, _ => []
theorem Fun.kbindsN {K : PySem.W.Frag} {x qual : Str} {st : Stmt} {f : Addr} {fd : FuncData} {ps ks : List Str} (idx : List Nat) (F : Fun K x qual st f fd) (hp : ps ≠ [])
    (h : ∀ (kV doc pm : Value) (an : Option Addr) (cdv ct : Value) (ws : List Value), (permI idx ws).length = ps.length → bindArgs (PySem.W.fnOf x qual (defArgs st) (defBody st) (defScope st) .none kV doc pm an cdv ct) ⟨[], ks.zip ws⟩ = pure (ps.zip (permI idx ws))) : KBinds K fd ps ks (gK idx) (gK idx) := by
  obtain ⟨oc, od, kV, doc, pm, an, cdv, ct, osl, rfl, lk, hcd⟩ := F.ex
  refine ⟨fun s us ws _ hl => ?_, fun {vs us zs ws} r rz => ?_⟩
  · cases us with
    | nil => exact .of_eq (h kV doc pm an cdv ct ws hl)
    | cons u us => exact absurd (List.length_eq_zero_iff.mp hl.symm) hp
  · cases r with
    | nil => exact permI_paired rz idx
    | cons _ _ => exact .nil
abbrev PFK (ρ : Root) (X : Cx) (dx : DX) (kws : List Keyword) (f : FAr) : Prop := PK X kws (liftA ⟨X.K, ρ⟩ (rd dx f))
def fPerm (idx : List Nat) (fs : FAr) : FAr := fun g => (fs g).bind fun rs g1 => .ok (permI idx rs) g1
section
variable {ρ : Root} {X : Cx} {dx : DX} {e : Expr} {kws : List Keyword} {kpos p pos : Pos} {nm : Option Str} {fe : FE} {fs : FAr}
theorem pk_imp {t t' : TA} (h : PK X kws t) (i : ∀ s H Q, t' s H Q → t s H Q) : PK X kws t' := ⟨fun p pins s σ H Q I q => h.run p pins s σ H Q I (i σ H Q q)⟩
theorem qk_nil : PFK ρ X dx [] fNil := pk_imp pk_nil fun s H Q ⟨F, g, tm, k, B, al, S, hk, q⟩ => q [] H [] g B al hk S .nil
theorem qk_cons (ha : PF ρ X dx e fe) (hr : PFK ρ X dx kws fs) : PFK ρ X dx (⟨nm, e, kpos⟩ :: kws) (fCons fe fs) :=
  pk_imp (pk_cons ha hr) fun s H Q ⟨F, g, tm, k, B, al, S, hk, q⟩ => ⟨F, g, tm, _, B, al, S, go_bind.mp hk, fun x H1 r1 g1 B1 al1 hk1 S1 => ⟨F, g1, (x, r1) :: tm, _, B1, al1, S1, go_bind.mp hk1, fun vs H2 rs g2 B2 al2 hk2 S2 pr =>
    q (x :: vs) H2 (r1 :: rs) g2 B2 al2 hk2 (S2.temps fun p hp => List.mem_cons_of_mem _ hp) (.cons (S2.tm (x, r1) List.mem_cons_self) pr)⟩⟩
def tCallK0 (sp : Sp) (idx : List Nat) (E : L2.St → XK) (tk : TA) : TE := fun σ H Q => tk σ H fun zs H2 => sp (permI idx zs) H2 Q (E σ)
theorem pe_callK0 {k : Nat} {f : Addr} {fd : FuncData} {ps ks : List Str} {sp : Sp} {E : L2.St → XK} {x : Str} {tk : TA} {idx : List Nat} (F : FnG X.prog X.w X.K X.mg X.base (L2.CX X.prog X.w) k f fd ps sp) (hr : Calm k X.A) (hg : Gl X x) (hm : X.mg x = some (.ref f)) (hk : PySem.W.keepIn X.K (.ref f) = true) (hb : KBinds X.K fd ps ks (gK idx) (gK idx)) (hx : ∀ σ, PassesAt (L2.CX X.prog X.w) X σ (E σ))
    (hkw : PK X kws tk) (hall : (backToKw pos (keywordEach kws X.env)).all (·.1.isSome) = true := by rfl) (hks : (backToKw pos (keywordEach kws X.env)).filterMap (·.1) = ks := by rfl)
    (hdb : (x == ("__debug__" : Str)) = false := by decide) (hpl : ((backTo pos (starEach [] X.env)).any (·.1) || (backToKw pos (keywordEach kws X.env)).any (·.1.isNone)) = false := by rfl) :
    PE X (.Call (.Name x p) [] kws pos) (tCallK0 sp idx E tk) := by
  refine ⟨fun pins s σ H Q I h => ?_⟩
  refine wpAny_Call_Name_kw (ld_glob I hg hm ?_ hdb)
  refine PySem.W.callWith_KW0 (h₀ := X.base) I.ok.mod.kin hk hall (thn (hkw.run pos pins s σ H _ I h) fun ws s2 ⟨zs, H2, I2, rz, q2⟩ => ⟨I2.kIn, ?_⟩) hpl
  rw [hks]
  have r2 : Vals (permI idx zs) (permI idx ws) := permI_paired rz idx
  have hl : (gK idx ([] : List Value) ws).length = ps.length := by
    show (permI idx ws).length = _
    rw [← r2.length]; exact F.count _ _ _ _ q2
  exact runs_G (as := ⟨[], ks.zip ws⟩) F hr I2 (fun v s' q => hx σ pins H2 s2 v s' I2 q) (hb.to s2 [] ws I2.kIn hl) r2 q2
theorem q_callK (own : Bool) {k : Nat} {f : Addr} {fd : FuncData} {ps ks : List Str} {x : Str} {fn : Fn} (idx : List Nat) (tk : Takes X (liftX ⟨X.K, ρ⟩ dx)) (G : FnG X.prog X.w X.K X.mg X.base (L2.CX X.prog X.w) k f fd ps (spF X.K ρ.cl ps.length fn)) (hr : Calm k X.A) (hg : Gl X x) (hm : X.mg x = some (.ref f)) (hk : PySem.W.keepIn X.K (.ref f) = true) (hb : KBinds X.K fd ps ks (gK idx) (gK idx))
    (ha : PFK ρ X dx kws fs) (hn : nArgs ps.length fs) (hi : ∀ rs : List R, rs.length = ps.length → (permI idx rs).length = ps.length)
    (hall : (backToKw pos (keywordEach kws X.env)).all (·.1.isSome) = true := by rfl) (hks : (backToKw pos (keywordEach kws X.env)).filterMap (·.1) = ks := by rfl)
    (hdb : (x == ("__debug__" : Str)) = false := by decide) (hpl : ((backTo pos (starEach [] X.env)).any (·.1) || (backToKw pos (keywordEach kws X.env)).any (·.1.isNone)) = false := by rfl) : PF ρ X dx (.Call (.Name x p) [] kws pos) (fCall fn own (fPerm idx fs)) :=
  pe_imp (pe_callK0 G hr hg hm hk hb (passAt tk) ha hall hks hdb hpl) fun s H Q ⟨F, g, tm, kk, B, al, S, hk, q⟩ => by
    have hk : ((fs g).bind fun rs g1 => (Out.ok (permI idx rs) g1 : Out (List R))).bind (fun rs g1 => callF fn own rs g1) |>.go dx kk := hk
    have z := ref_callF (K := ⟨X.K, ρ⟩) (dx := dx) (fs := fPerm idx fs) (fn := fn) (own := own) (n := ps.length) s H Q ⟨F, g, tm, kk, B, al, S, (by
      show (fPerm idx fs g).go dx _
      unfold fPerm
      cases h1 : fs g with
      | no => rw [h1] at hk; exact hk
      | ex n g => rw [h1] at hk; exact hk
      | ok rs g1 => rw [h1] at hk; exact ⟨hi rs (hn g rs g1 h1), hk⟩), q⟩
    obtain ⟨F', g', tm', k', B', al', S', hk', q'⟩ := z
    refine ⟨F', g', tm', _, B', al', S', go_bind.mp hk', fun vs H1 rs g1 B1 al1 hk1 S1 pr => ?_⟩
    exact q' (permI idx vs) H1 (permI idx rs) g1 B1 al1 hk1 S1 (permI_paired pr idx)
end
end DL
set_option Elab.async false
set_option linter.all false
set_option maxRecDepth 100000
set_option maxHeartbeats 4000000
set_option autoImplicit false
namespace DL
open PySem PySem.Spec PyProof.Rows L2
end DL
set_option Elab.async false
set_option linter.all false
set_option maxRecDepth 100000
set_option maxHeartbeats 4000000
set_option autoImplicit false
namespace DL
open PySem PySem.Spec PyProof.Rows L2
def catchK (o : Option Bool) (i j : Nat) (n : Xn) (g : G) : Out Fl := match o with
  | some true => if i < g.sl.length then .ok .nx ⟨(g.sl.set j (some (.x n))).set i none, g.ce⟩ else .no
  | some false => .ex n g
  | none => .no
def tryK (hit : Str → Option Bool) (i j : Nat) (o : Out Fl) : Out Fl := match o with
  | .ex n g => catchK (hit n.cls) i j n g
  | o => o
theorem sTry_ap (hit : Str → Option Bool) (i j : Nat) (u : FS) (g : G) : sTry hit i j u g = tryK hit i j (u g) := by
  unfold sTry tryK
  cases u g with
  | ok a g => rfl
  | no => rfl
  | ex n g => exact id rfl
theorem tryK_ok (hit : Str → Option Bool) (i j : Nat) (f : Fl) (g : G) : tryK hit i j (.ok f g) = .ok f g := id rfl
theorem tryK_ex (hit : Str → Option Bool) (i j : Nat) (c : Str) (fl : List (Str × PyData)) (g : G) : tryK hit i j (.ex ⟨c, fl⟩ g) = catchK (hit c) i j ⟨c, fl⟩ g := id rfl
theorem catchK_true (i j : Nat) (n : Xn) (sl : List (Option R)) (ce : List Ct) : catchK (some true) i j n ⟨sl, ce⟩ = if i < sl.length then .ok .nx ⟨(sl.set j (some (.x n))).set i none, ce⟩ else .no := id rfl
theorem catchK_false (i j : Nat) (n : Xn) (g : G) : catchK (some false) i j n g = .ex n g := id rfl
def isxK (t : Str → Option Bool) (t0 : Option Bool) : R → G → Out R := fun r g1 => match r with
  | .x n => ofO ((t n.cls).map fun b => .d (.bool b)) g1
  | .d .none => ofO (t0.map fun b => .d (.bool b)) g1
  | _ => .no
theorem fIsX_ap (t : Str → Option Bool) (t0 : Option Bool) (e : FE) (g : G) : fIsX t t0 e g = (e g).bind (isxK t t0) := id rfl
theorem isxK_x (t : Str → Option Bool) (t0 : Option Bool) (c : Str) (fl : List (Str × PyData)) (g : G) : isxK t t0 (.x ⟨c, fl⟩) g = ofO ((t c).map fun b => .d (.bool b)) g := id rfl
theorem isxK_n (t : Str → Option Bool) (t0 : Option Bool) (g : G) : isxK t t0 (.d .none) g = ofO (t0.map fun b => .d (.bool b)) g := id rfl
def attrK (cs : List Str) (f : Str) : R → G → Out R := fun r g1 => match r with
  | .x n => if cs.contains n.cls then match n.fld.lookup f with
      | some x => .ok (.d x) g1
      | none => .no else .no
  | _ => .no
theorem fAttr_ap (cs : List Str) (f : Str) (e : FE) (g : G) : fAttr cs f e g = (e g).bind (attrK cs f) := id rfl
theorem attrK_x (cs : List Str) (f c : Str) (x : PyData) (g : G) : attrK cs f (.x ⟨c, [(f, x)]⟩) g = if cs.contains c = true then .ok (.d x) g else .no := by
  unfold attrK
  simp [List.lookup]
def raiseK (cls f : Str) : List R → G → Out Fl := fun rs g1 => match rs with
  | [.d x] => if showsD x then .ex ⟨cls, [(f, x)]⟩ g1 else .no
  | _ => .no
theorem sRaise1_ap (cls f : Str) (fs : FAr) (g : G) : sRaise1 cls f fs g = (fs g).bind (raiseK cls f) := id rfl
theorem raiseK_d (cls f : Str) (x : PyData) (g : G) : raiseK cls f [.d x] g = if showsD x = true then .ex ⟨cls, [(f, x)]⟩ g else .no := id rfl
theorem sRaise0_ap (cls : Str) (g : G) : sRaise0 cls g = .ex ⟨cls, []⟩ g := id rfl
def optCons {α : Type} (o : Option α) (l : List α) : List α := match o with
  | some a => a :: l
  | none => l
theorem permI_nil {α : Type} (l : List α) : permI [] l = [] := id rfl
theorem permI_cons {α : Type} (i : Nat) (idx : List Nat) (l : List α) : permI (i :: idx) l = optCons l[i]? (permI idx l) := by
  unfold permI optCons
  rw [List.filterMap_cons]
  cases l[i]? <;> rfl
theorem optCons_some {α : Type} (a : α) (l : List α) : optCons (some a) l = a :: l := id rfl
theorem fPerm_ap (idx : List Nat) (fs : FAr) (g : G) : fPerm idx fs g = (fs g).bind fun rs g1 => .ok (permI idx rs) g1 := id rfl
end DL
set_option Elab.async false
set_option linter.all false
set_option maxRecDepth 100000
set_option maxHeartbeats 4000000
set_option autoImplicit false
namespace DL
open PySem PySem.Spec PyProof.Rows L2
def setAll {α : Type} : List (Option α) → List Nat → List α → List (Option α)
  | sl, i :: is, r :: rs => setAll (sl.set i (some r)) is rs
  | sl, _, _ => sl
def sPk (is : List Nat) (fs : FAr) : FS := fun g => (fs g).bind fun rs g1 => if rs.length = is.length then .ok .nx ⟨setAll g1.sl is rs, g1.ce⟩ else .no
theorem sPk_ap (is : List Nat) (fs : FAr) (g : G) : sPk is fs g = (fs g).bind fun rs g1 => if rs.length = is.length then .ok .nx ⟨setAll g1.sl is rs, g1.ce⟩ else .no := id rfl
theorem setAll_cons {α : Type} (sl : List (Option α)) (i : Nat) (is : List Nat) (r : α) (rs : List α) : setAll sl (i :: is) (r :: rs) = setAll (sl.set i (some r)) is rs := id rfl
theorem setAll_nil {α : Type} (sl : List (Option α)) (rs : List α) : setAll sl [] rs = sl := by cases rs <;> rfl
section
variable {ρ : Root} {X : Cx} {dx : DX} {a b e o : Expr} {es as : List Expr} {pos : Pos} {f f1 f2 : FE} {fs : FAr}
def opRep : Op2 := fun g r1 r2 => match r1, r2 with
  | .d (.list ds), .d (.int k) => if ds.length * k.toNat ≤ 100000 ∧ -(2 ^ 62) ≤ k ∧ k < 2 ^ 62 then some (.d (.list (List.replicate k.toNat ds).flatten)) else none
  | _, _ => none
theorem opRep_ap (g : G) (ds : List PyData) (k : Int) : opRep g (.d (.list ds)) (.d (.int k)) = if ds.length * k.toNat ≤ 100000 ∧ -(2 ^ 62) ≤ k ∧ k < 2 ^ 62 then some (.d (.list (List.replicate k.toNat ds).flatten)) else none := id rfl
def oRep : D2 := fun r1 r2 g k => ∃ ds i, r1 = .d (.list ds) ∧ r2 = .d (.int i) ∧ ds.length * i.toNat ≤ 100000 ∧ -(2 ^ 62) ≤ i ∧ i < 2 ^ 62 ∧ k (.d (.list (List.replicate i.toNat ds).flatten)) g
theorem dqall_rep {B : Hp} {xs : List V} {ds : List PyData} (h : DqAll B xs ds) : ∀ n : Nat, DqAll B (List.replicate n xs).flatten (List.replicate n ds).flatten
  | 0 => .nil
  | n + 1 => by
    rw [List.replicate_succ, List.replicate_succ, List.flatten_cons, List.flatten_cons]
    exact dqall_app h (dqall_rep h n)
theorem ref_rep {K : KR} : RefOp K rRep oRep := by
  rintro F g tm s H B al x y r1 r2 k Q S hx hy ⟨ds, i, rfl, rfl, hz, h1, h2, hk⟩ q
  obtain ⟨a, xs, rfl, e1, e2⟩ := dq_list hx
  have ey := dq_int hy
  subst ey
  exact ⟨a, i, xs, rfl, rfl, S.bh _ _ e1, by omega, by omega, by rw [dqall_len e2]; exact sz_ok hz, fun p hp => new_l S hp (dqall_rep e2 _) hk q⟩
theorem says_rep : Says opRep oRep := fun r1 r2 g k r e hk => by
  unfold opRep at e
  split at e
  · split at e
    · rename_i h
      cases e
      exact ⟨_, _, rfl, rfl, h.1, h.2.1, h.2.2, hk⟩
    · cases e
  · cases e
theorem q_rep (ha : PF ρ X dx a f1) (hb : PF ρ X dx b f2) : PF ρ X dx (.BinOp a .Mult b pos) (fOp opRep f1 f2) := pd_mono (pd_op op_rep ref_rep ha hb) (rd_op says_rep)
def rCountD (K : PySem.W.Frag) : V → List V → Hp → VK → Prop := fun x xs H Q => ∃ (a : Addr) (y : V) (d : PyData) (ds : List PyData), x = .ref a ∧ xs = [y] ∧ Dp K H (.ref a) (.list ds) ∧ Dp K H y d ∧ SeqAt.shaped (.list ds) = true ∧ SeqAt.shaped d = true ∧ Q (.int ((ds.countP fun z => PyData.eqv z d : Nat) : Int)) H
theorem mt_countD (hu : X.A.units + 65 < cLine) : MtR X "list.count" (rCountD X.K) := by
  intro pins s σ H x xs v us Q I rx rxs h
  obtain ⟨a, y, d, ds, rfl, rfl, hl, hy, sl, sd, q⟩ := h
  cases rx
  cases rxs with
  | cons ry rt =>
    rename_i uy ut
    cases rt
    obtain ⟨bs, r1⟩ := Dp.reads I d y uy hy ry
    have hxs : PyData.canLayAll0 ds = true := SeqAt.canLay_of_shaped sl
    have hroom : X.A.units + 1 + min (PyData.depthAll ds) d.depth < cLine := room_in_shaped sd hu
    cases hl with
    | lst hs ha =>
      obtain ⟨its, rv, ⟨⟨cls, dd, data, sls⟩, n, ho, hc, hdn, hdt⟩, hlen⟩ := I.list hs
      simp only at hc hdt
      subst hc hdt
      obtain ⟨as, h4⟩ := Dp.readsAll I ds _ its ha rv
      have hmap : its.map (SeqAt.readOf s.heap) = ds := SeqAt.readsAll_map ds its as hxs h4
      have ec : its.toArray.toList.countP (fun u => PyData.eqv (SeqAt.readOf s.heap u) d) = ds.countP (fun z => PyData.eqv z d) := by
        rw [← hmap, List.countP_map]
        rfl
      refine call_meets PySem.F.slot_list_count ⟨_, ho, rfl⟩ PySem.F.entry_list_count (PySem.F.args_list_count_2 _ _)
        (SeqAt.list_countAt a its.toArray n dd sls uy (fun u => PyData.eqv (SeqAt.readOf s.heap u) d)) ⟨ho, SeqAt.items_eqAt (vs := its.toArray) (show ReadsAll s.heap its.toArray.toList ds as from h4) r1 hxs (SeqAt.canLay_of_shaped sd) hroom, ?_⟩
      rw [ec]
      exact ⟨.int _, H, I.tok _, ⟨_, rfl⟩, q⟩
def mtCount : Mt := fun g r rs => match rs with
  | [r1] => match datOf g r, datOf g r1 with
    | some (.list ds), some d => if SeqAt.shaped (.list ds) && SeqAt.shaped d then some (.d (.int ((ds.countP fun z => PyData.eqv z d : Nat) : Int)), g) else none
    | _, _ => none
  | _ => none
def mCount : DM := fun r rs g k => ∃ ds r1 d, datOf g r = some (.list ds) ∧ rs = [r1] ∧ datOf g r1 = some d ∧ SeqAt.shaped (.list ds) = true ∧ SeqAt.shaped d = true ∧ k (.d (.int ((ds.countP fun z => PyData.eqv z d : Nat) : Int))) g
theorem ref_count {K : KR} : RefM K (rCountD K.fr) mCount := by
  rintro F g tm s H B al x vs r0 rs k Q S hx pr ⟨ds, r1, d, e1, rfl, e2, s1, s2, hk⟩ q
  obtain ⟨v, rfl, hv⟩ := pair1 pr
  have h1 := S.dat hx e1
  have h2 := S.dat hv e2
  have ha : ∃ a, x = .ref a := by cases h1 with | lst _ _ => exact ⟨_, rfl⟩
  obtain ⟨a, rfl⟩ := ha
  exact ⟨a, v, d, ds, rfl, rfl, h1, h2, s1, s2, q _ H _ g B al hk S (Dq.int _)⟩
theorem sm_count : SaysM mtCount mCount := fun r rs g k q g' e hk => by
  unfold mtCount at e
  split at e
  · split at e
    · rename_i ds d e1 e2
      split at e
      · rename_i hc
        simp only [Bool.and_eq_true] at hc
        cases e
        exact ⟨ds, _, d, e1, rfl, e2, hc.1, hc.2, hk⟩
      · cases e
    · cases e
  · cases e
theorem q_count {apos cpos : Pos} (hu : X.A.units + 65 < cLine) (ho : PF ρ X dx o f) (ha : PFA ρ X dx (e :: es) fs)
    (hbase : attributeBase o "count" X.env (eval o X.env) = eval o X.env := by rfl)
    (hfew : ((backTo cpos (starEach (e :: es) X.env)).all (fun x => !x.1) && (backToKw cpos (keywordEach [] X.env)).all (fun x => x.1.isSome) && decide ((e :: es).length + ([] : List Keyword).length + (if ([] : List Keyword).isEmpty then 0 else 1) < 30)) = true := by rfl)
    (hline : (apos.endLine == cpos.line) = true := by rfl) (hs : starEach (e :: es) X.env = (false, eval e X.env) :: starEach es X.env := by rfl) (hplain : (backTo cpos (starEach es X.env)).any (·.1) = false := by rfl) :
    PF ρ X dx (.Call (.Attribute o "count" apos) (e :: es) [] cpos) (fMt mtCount f fs) := pd_mono (pd_meth PySem.F.slot_list_count PySem.F.type_list_count (mt_countD hu) ref_count ho ha hbase hfew hline hs hplain) (rd_mt sm_count)
def rgOk (i j : Int) : Bool := decide (-(2 ^ 62) ≤ i ∧ i < 2 ^ 62 ∧ -(2 ^ 62) ≤ j ∧ j < 2 ^ 62 ∧ (j - i).toNat ≤ 1000000)
def rgK (t : Bool) (i j : Int) (g : G) : Out R := if rgOk i j then .ok (.d (if t then .tuple (rng i (j - i).toNat) else .list (rng i (j - i).toNat))) g else .no
def fRg2 (t : Bool) (fa fb : FE) : FE := fun g => (fa g).bind fun r1 g1 => (fb g1).bind fun r2 g2 => match r1, r2 with
  | .d (.int i), .d (.int j) => rgK t i j g2
  | _, _ => .no
theorem rg_ok {i j : Int} (h : rgOk i j = true) : RgOk i j := by
  have := of_decide_eq_true h
  exact ⟨this.1, this.2.1, this.2.2.1, this.2.2.2.1, by omega⟩
theorem dq_rg {B : Hp} (i j : Int) : DqAll B (rgV i j) (rng i (j - i).toNat) := by
  unfold rgV rng
  generalize List.range (j - i).toNat = l
  induction l with
  | nil => exact .nil
  | cons n l ih => exact .cons (.int _) ih
section
variable {p1 p2 p3 : Pos}
theorem rd_rg2 {g : G} {k : R → G → Prop} {c : Int → Int → G → Out R} (h : ((f1 g).bind fun r1 g1 => (f2 g1).bind fun r2 g2 => match r1, r2 with
    | .d (.int i), .d (.int j) => c i j g2
    | _, _ => .no).go dx k) : (f1 g).go dx fun r1 g1 => (f2 g1).go dx fun r2 g2 => ∃ i j, r1 = .d (.int i) ∧ r2 = .d (.int j) ∧ (c i j g2).go dx k := by
  refine go_mono (go_bind.mp h) fun r1 g1 h1 => go_mono (go_bind.mp h1) fun r2 g2 h2 => ?_
  split at h2
  · exact ⟨_, _, rfl, rfl, h2⟩
  · exact h2.elim
theorem rg2_core {te : TE} {F : Fm} {g : G} {tm : List (V × R)} {s : L2.St} {H B : Hp} {al : List Addr} {k : R → G → Prop} {c : Int → Int → G → Out R} {Z : Int → Int → Hp → Prop} (S : Stt ⟨X.K, ρ⟩ F g tm s H B al)
    (h : (f1 g).go dx fun r1 g1 => (f2 g1).go dx fun r2 g2 => ∃ i j, r1 = .d (.int i) ∧ r2 = .d (.int j) ∧ (c i j g2).go dx k)
    (z : ∀ i j H2 g2 B2 al2, (c i j g2).go dx k → Stt ⟨X.K, ρ⟩ F g2 tm s H2 B2 al2 → Z i j H2) : tRg2 (lift ⟨X.K, ρ⟩ (rd dx f1)) (lift ⟨X.K, ρ⟩ (rd dx f2)) s H Z :=
  ⟨F, g, tm, _, B, al, S, h, fun x H1 r1 g1 B1 al1 h1 S1 => ⟨F, g1, (x, r1) :: tm, _, B1, al1, S1, h1, fun y H2 r2 g2 B2 al2 ⟨i, j, e1, e2, h2⟩ S2 => by
    subst e1 e2
    have ey := dq_int (S2.top rfl)
    have ex := dq_int (S2.tm (x, _) (List.mem_cons_of_mem _ List.mem_cons_self))
    exact ⟨i, j, ex, ey, z i j H2 g2 B2 al2 h2 (S2.temps fun p hp => List.mem_cons_of_mem _ (List.mem_cons_of_mem _ hp))⟩⟩⟩
theorem q_lrg2 (hc : X.calm = true) (hg : Gl X "list") (hm : X.mg "list" = none) (hgr : Gl X "range") (hmr : X.mg "range" = none) (ha : PF ρ X dx a f1) (hb : PF ρ X dx b f2) (na : starEach [a, b] X.env = (false, eval a X.env) :: starEach [b] X.env := by rfl) (nb : starEach [b] X.env = (false, eval b X.env) :: starEach [] X.env := by rfl)
    (hp : (backTo p2 (starEach [b] X.env)).any (·.1) = false := by rfl) (nc : starEach [.Call (.Name "range" p1) [a, b] [] p2] X.env = (false, eval (.Call (.Name "range" p1) [a, b] [] p2) X.env) :: starEach [] X.env := by rfl) : PF ρ X dx (.Call (.Name "list" p3) [.Call (.Name "range" p1) [a, b] [] p2] [] pos) (fRg2 false f1 f2) := by
  refine pe_imp (pe_listRg hc hg hm (prg_2 hgr hmr ha hb na nb hp) nc) fun s H Q h => ?_
  obtain ⟨F, g, tm, k, B, al, S, hd, q⟩ := h
  refine rg2_core (te := tC .non) (c := rgK false) (k := k) S (rd_rg2 hd) fun i j H2 g2 B2 al2 hk S2 => ?_
  unfold rgK at hk
  by_cases ho : rgOk i j = true
  · rw [if_pos ho] at hk
    exact ⟨rg_ok ho, fun p hp => new_l S2 hp (dq_rg i j) hk fun v H' r g' B' al' hr S' rv => q v H' r g' B' al' hr (S'.push rv)⟩
  · rw [if_neg ho] at hk; exact hk.elim
end
end
end DL
set_option Elab.async false
set_option linter.all false
set_option maxRecDepth 100000
set_option maxHeartbeats 4000000
set_option autoImplicit false
namespace DL
open PySem PySem.Spec PyProof.Rows L2
section
variable {K : KR} {F : Fm} {g : G} {tm : List (V × R)} {s : L2.St} {H B : Hp} {al : List Addr}
def frzR (r : R) (g : G) : Option (PyData × G) := match r with
  | .d x => some (x, g)
  | .o j => match g.ce[j]? with
    | some (.lst ds) => some (.list ds, putC g j .dead)
    | _ => none
  | _ => none
def frzs : List R → G → Option (List PyData × G)
  | [], g => some ([], g)
  | r :: rs, g => match frzR r g with
    | some (x, g1) => match frzs rs g1 with
      | some (xs, g2) => some (x :: xs, g2)
      | none => none
    | none => none
end
def fTupF (fs : FAr) : FE := fun g => (fs g).bind fun rs g1 => match frzs rs g1 with
  | some (ds, g2) => if ds.length ≤ 1000 then .ok (.d (.tuple ds)) g2 else .no
  | none => .no
def tupK (o : Option (List PyData × G)) : Out R := match o with
  | some (ds, g2) => if ds.length ≤ 1000 then .ok (.d (.tuple ds)) g2 else .no
  | none => .no
theorem fTupF_ap (fs : FAr) (g : G) : fTupF fs g = (fs g).bind fun rs g1 => tupK (frzs rs g1) := id rfl
theorem tupK_some (ds : List PyData) (g : G) : tupK (some (ds, g)) = if ds.length ≤ 1000 then .ok (.d (.tuple ds)) g else .no := id rfl
end DL
set_option Elab.async false
set_option linter.all false
set_option maxRecDepth 100000
set_option maxHeartbeats 4000000
set_option autoImplicit false
namespace DL
open PySem PySem.Spec PyProof.Rows L2
def lstAt (g : G) (j : Nat) : Option PyData := match g.ce[j]? with
  | some (.lst ds) => some (.list ds)
  | _ => none
def lstsAt (g : G) : List Nat → Option (List PyData)
  | [] => some []
  | j :: js => match lstAt g j, lstsAt g js with
    | some x, some xs => some (x :: xs)
    | _, _ => none
def loanR (g : G) : R → Option PyData
  | .d x => some x
  | .o j => lstAt g j
  | .l js => (lstsAt g js).map .list
  | _ => none
def loans (g : G) : List R → Option (List PyData)
  | [] => some []
  | r :: rs => match loanR g r, loans g rs with
    | some x, some xs => some (x :: xs)
    | _, _ => none
def isSc : PyData → Bool
  | .none => true
  | .bool _ => true
  | .int _ => true
  | .str _ => true
  | _ => false
theorem dq_sc {B B' : Hp} {v : V} {x : PyData} (h : isSc x = true) (d : Dq B v x) : Dq B' v x := by
  cases d with
  | non => exact .non
  | bl b => exact .bl b
  | int i => exact .int i
  | str z => exact .str z
  | lst _ _ => cases h
  | tup _ _ => cases h
section
variable {K : KR} {F : Fm} {g : G} {tm : List (V × R)} {s : L2.St} {H B : Hp} {al : List Addr}
def allB (H B : Hp) (al : List Addr) : Hp := fun a => if al.contains a = true then H a else B a
theorem allB_in {a : Addr} (h : a ∈ al) : allB H B al a = H a := by unfold allB; rw [if_pos (List.contains_iff_mem.mpr h)]
theorem allB_out {a : Addr} (h : a ∉ al) : allB H B al a = B a := by unfold allB; rw [if_neg (fun z => h (List.contains_iff_mem.mp z))]
theorem allB_same (bh : Same B H) : Same B (allB H B al) := fun a o e => by
  by_cases h : a ∈ al
  · rw [allB_in h]; exact bh _ _ e
  · rw [allB_out h]; exact e
theorem Stt.loan (S : Stt K F g tm s H B al) : Stt K F ⟨g.sl, g.ce.map fun _ => .dead⟩ tm s H (allB H B al) al := by
  have eB := allB_same (al := al) S.bh
  have dd : ∀ (i : Nat) (ct : Ct), (g.ce.map fun _ => Ct.dead)[i]? = some ct → ct = .dead := fun i ct e => by
    rw [List.getElem?_map] at e
    cases h : g.ce[i]? with
    | none => rw [h] at e; cases e
    | some c => rw [h] at e; cases e; rfl
  refine { rb := S.rb, ro := S.ro, rp := S.rp, ot := S.ot, fb := S.fb.trans eB, bh := ?_, fo := ?_, pre := S.pre, len := (by show al.length = (g.ce.map _).length; rw [List.length_map]; exact S.len), nd := S.nd, lv := S.lv, nb := ?_, ce := ?_, sl := ?_, tm := ?_, sln := S.sln }
  · intro a o e
    by_cases h : a ∈ al
    · rw [allB_in h] at e; exact e
    · rw [allB_out h] at e; exact S.bh _ _ e
  · intro a o e
    obtain ⟨q1, q2, q3⟩ := S.fo a o e
    exact ⟨q1, by rw [allB_out q3]; exact q2, q3⟩
  · intro i a ct e1 e2 e3
    exact absurd (dd i ct e2) e3
  · intro i a ct e1 e2
    rw [dd i ct e2]
    rw [List.getElem?_map] at e2
    cases hc : g.ce[i]? with
    | none => rw [hc] at e2; cases e2
    | some c => exact ct_box (S.ce i a c e1 hc)
  · intro i r e
    obtain ⟨v, q1, q2⟩ := S.sl i r e
    exact ⟨v, q1, rv_mono0 eB q2⟩
  · intro q hq
    exact rv_mono0 eB (S.tm q hq)
theorem Stt.unloan (S : Stt K F g tm s H B al) {H' B' : Hp} {al' : List Addr} {ce' : List Ct} (S' : Stt (kAt K.fr K.rt.cl (allB H B al) (ownN F H (allB H B al) al) []) ⟨allB H B al, ownN F H (allB H B al) al, []⟩ ⟨[], ce'⟩ [] [] H' B' al') : Stt K F g tm s H' B al := by
  have e1 : Same (allB H B al) H' := S'.fb.trans S'.bh
  have eB := allB_same (al := al) S.bh
  have own : ∀ a ∈ al, ∀ o, H a = some o → H' a = some o := fun a ha o e => e1 a o (by rw [allB_in ha]; exact e)
  refine { rb := S.rb, ro := S.ro, rp := S.rp, ot := S.ot, fb := S.fb, bh := eB.trans e1, fo := ?_, pre := S.pre, len := S.len, nd := S.nd, lv := ?_, nb := S.nb, ce := ?_, sl := S.sl, tm := S.tm, sln := S.sln }
  · intro a o e
    obtain ⟨q1, q2, q3⟩ := S.fo a o e
    refine ⟨(S'.fo a o (by show ownN F H (allB H B al) al a = some o; rw [ownN_out q3]; exact e)).1, q2, q3⟩
  · intro a ha
    obtain ⟨o, e⟩ := S.lv a ha
    exact ⟨o, own a ha o e⟩
  · intro j a ct e2 e3
    exact ct_mono0 (Same.refl _) (fun o e => own a (List.mem_of_getElem? e2) o e) (S.ce j a ct e2 e3)
theorem dq_own (S : Stt K F g tm s H B al) {j : Nat} {a : Addr} {x : PyData} (ha : al[j]? = some a) (h : lstAt g j = some x) : Dq (allB H B al) (.ref a) x := by
  unfold lstAt at h
  split at h
  · rename_i ds hc
    cases h
    obtain ⟨xs, h1, h2⟩ := S.ce j a _ ha hc
    exact .lst (by rw [allB_in (List.mem_of_getElem? ha)]; exact h1) (dqall_mono (allB_same S.bh) h2)
  · cases h
theorem dq_owns (S : Stt K F g tm s H B al) : ∀ {js : List Nat} {xs : List V} {ds : List PyData}, Paired (fun (x : V) (j : Nat) => ∃ a, al[j]? = some a ∧ x = V.ref a) xs js → lstsAt g js = some ds → DqAll (allB H B al) xs ds
  | [], _, ds, .nil, h => by cases h; exact .nil
  | j :: js, _ :: xs, ds, .cons a b, h => by
    unfold lstsAt at h
    split at h
    · rename_i y ys e1 e2
      cases h
      obtain ⟨q, hq, rfl⟩ := a
      exact .cons (dq_own S hq e1) (dq_owns S b e2)
    · cases h
theorem dq_loan (S : Stt K F g tm s H B al) {v : V} {r : R} {x : PyData} (hv : RvOk K B al v r) (h : loanR g r = some x) : Dq (allB H B al) v x := by
  cases r with
  | d y => cases h; exact dq_mono (allB_same S.bh) hv
  | o j =>
    obtain ⟨a, ha, rfl⟩ := hv
    exact dq_own S ha h
  | l js =>
    obtain ⟨p, xs, rfl, h1, h2⟩ := hv
    have h : (lstsAt g js).map PyData.list = some x := h
    cases e : lstsAt g js with
    | none => rw [e] at h; cases h
    | some ds =>
      rw [e] at h
      cases h
      exact .lst (allB_same S.bh _ _ h1) (dq_owns S h2 e)
  | s ns => cases h
  | x n => cases h
  | m ct => cases h
theorem dq_loans (S : Stt K F g tm s H B al) : ∀ {rs : List R} {vs : List V} {ds : List PyData} {K' : KR} {al' : List Addr}, Paired (RvOk K B al) vs rs → loans g rs = some ds → Paired (RvOk K' (allB H B al) al') vs (ds.map R.d)
  | [], _, ds, K', al', .nil, h => by cases h; exact .nil
  | r :: rs, v :: vs, ds, K', al', .cons a b, h => by
    unfold loans at h
    split at h
    · rename_i y ys e1 e2
      cases h
      exact .cons (dq_loan S a e1) (dq_loans S b e2)
    · cases h
end
def callL (f : Fn) (rs : List R) (g : G) : Out R := match loans g rs with
  | some ds => match f (ds.map R.d) [] with
    | .ok (.dat x) _ => if isSc x = true then .ok (.d x) g else .no
    | _ => .no
  | none => .no
def fCallL (f : Fn) (fs : FAr) : FE := fun g => (fs g).bind fun rs g1 => callL f rs g1
theorem fCallL_ap (f : Fn) (fs : FAr) (g : G) : fCallL f fs g = (fs g).bind fun rs g1 => callL f rs g1 := id rfl
theorem callL_of {f : Fn} {rs : List R} {ds : List PyData} {x : PyData} {g : G} (h : f (ds.map R.d) [] = .ok (.dat x) []) (hl : loans g rs = some ds) (hs : isSc x = true) : callL f rs g = .ok (.d x) g := by
  unfold callL
  rw [hl]
  simp only [h, hs, if_true]
section
variable {ρ : Root} {X : Cx} {dx : DX} {k : Nat} {f : Addr} {fd : FuncData} {ps : List Str} {x : Str} {p pos : Pos} {a b e : Expr} {es : List Expr} {K : KR} {fn : Fn} {fs : FAr} {f1 f2 : FE}
theorem ref_callL {n : Nat} : ∀ s H Q, lift K (fun g k => rd dx fs g fun rs g1 => rs.length = n ∧ (callL fn rs g1).go dx k) s H Q → tCallS (spF K.fr K.rt.cl n fn) (WE (liftX K dx)) (liftA K (rd dx fs)) s H Q := fun s H Q ⟨F, g, tm, kk, B, al, S, hk, q⟩ =>
  ⟨F, g, tm, _, B, al, S, hk, fun vs H1 rs g1 B1 al1 ⟨hlen, hc⟩ S1 pr => by
    show spF K.fr K.rt.cl n fn vs H1 Q _
    unfold callL at hc
    cases hl : loans g1 rs with
    | none => rw [hl] at hc; exact hc.elim
    | some ds =>
      rw [hl] at hc
      have S2 := S1.loan
      refine ⟨allB H1 B1 al1, ownN F H1 (allB H1 B1 al1) al1, [], [], ds.map R.d, by rw [pr.length]; exact hlen, call_in S2, dq_loans S1 pr hl, ?_, ?_, ?_⟩
      · intro z
        simp only [z] at hc
        exact hc
      · intro v H' qq bx' B' al' ce' ef hb S' hr
        simp only [ef] at hc
        cases qq with
        | dat y =>
          simp only at hc
          by_cases hs : isSc y = true
          · rw [if_pos hs] at hc
            have eb : bx' = [] := List.length_eq_zero_iff.mp hb
            subst eb
            exact q v H' (.d y) g1 B1 al1 hc ((S1.unloan S').push (dq_sc hs hr))
          · rw [if_neg hs] at hc
            exact hc.elim
        | shC ct => exact hc.elim
        | newC ct => exact hc.elim
      · intro n cls d H' bx' B' al' ce' ef hb S' hx
        simp only [ef] at hc
        exact hc.elim⟩
theorem q_callL (tk : Takes X (liftX ⟨X.K, ρ⟩ dx)) (G : FnG X.prog X.w X.K X.mg X.base (L2.CX X.prog X.w) k f fd ps (spF X.K ρ.cl ps.length fn)) (hr : Calm k X.A) (hg : Gl X x) (hm : X.mg x = some (.ref f)) (hk : PySem.W.keepIn X.K (.ref f) = true) (hb : Binds X.K fd ps []) (ha : PFA ρ X dx (e :: es) fs) (hn : nArgs ps.length fs) (hdb : (x == ("__debug__" : Str)) = false := by decide)
    (he : starEach (e :: es) X.env = (false, eval e X.env) :: starEach es X.env := by rfl) (hpl : (backTo pos (starEach es X.env)).any (·.1) = false := by rfl) : PF ρ X dx (.Call (.Name x p) (e :: es) [] pos) (fCallL fn fs) :=
  pe_imp (pe_callG G hr hg hm hk hb (passAt tk) ha hdb he hpl) fun s H Q ⟨F, g, tm, kk, B, al, S, hk, q⟩ => ref_callL s H Q ⟨F, g, tm, kk, B, al, S, (by
    unfold rd fCallL at hk
    show (fs g).go dx _
    cases h1 : fs g with
    | no => rw [h1] at hk; exact hk
    | ex n g => rw [h1] at hk; exact hk
    | ok rs g1 => rw [h1] at hk; exact ⟨hn g rs g1 h1, hk⟩), q⟩
def asOs : List R → Option (List Nat)
  | [] => some []
  | .o j :: r => (asOs r).map (j :: ·)
  | _ => none
def lstLK (g : G) (o : Option (List Nat)) : Out R := match o with
  | some js => if js.length ≤ 1000 then .ok (.l js) g else .no
  | none => .no
def fLstL (fs : FAr) : FE := fun g => (fs g).bind fun rs g1 => lstLK g1 (asOs rs)
theorem fLstL_ap (fs : FAr) (g : G) : fLstL fs g = (fs g).bind fun rs g1 => lstLK g1 (asOs rs) := id rfl
theorem asOs_paired {B : Hp} {al : List Addr} : ∀ {rs : List R} {vs : List V} {js : List Nat}, Paired (RvOk K B al) vs rs → asOs rs = some js → Paired (fun (x : V) (j : Nat) => ∃ a, al[j]? = some a ∧ x = V.ref a) vs js
  | [], _, js, .nil, h => by cases h; exact .nil
  | .o j :: rs, v :: vs, js, .cons a b, h => by
    have h : (asOs rs).map (j :: ·) = some js := h
    cases e : asOs rs with
    | none => rw [e] at h; cases h
    | some ks => rw [e] at h; cases h; exact .cons a (asOs_paired b e)
  | .d _ :: _, _ :: _, _, .cons _ _, h => by cases h
  | .s _ :: _, _ :: _, _, .cons _ _, h => by cases h
  | .x _ :: _, _ :: _, _, .cons _ _, h => by cases h
  | .m _ :: _, _ :: _, _, .cons _ _, h => by cases h
  | .l _ :: _, _ :: _, _, .cons _ _, h => by cases h
theorem q_lstL (h : PFA ρ X dx es fs) : PF ρ X dx (.List es pos) (fLstL fs) := by
  refine pe_imp (pe_lst h) fun s H Q h => ?_
  obtain ⟨F, g, tm, k, B, al, S, hd, q⟩ := h
  refine ⟨F, g, tm, _, B, al, S, go_bind.mp hd, fun vs H1 rs g1 B1 al1 hk S1 pr => ?_⟩
  cases hz : asOs rs with
  | none => rw [hz] at hk; exact hk.elim
  | some js =>
    rw [hz] at hk
    have hk : (if js.length ≤ 1000 then (.ok (.l js) g1 : Out R) else .no).go dx k := hk
    by_cases hl : js.length ≤ 1000
    · rw [if_pos hl] at hk
      have pj := asOs_paired pr hz
      refine ⟨by rw [pj.length, sizeLine_eq]; omega, fun p hp => ?_⟩
      exact q _ _ _ g1 _ al1 hk ((S1.grow (o := .lst vs) hp).push ⟨p, vs, rfl, upd_same, pj⟩)
    · rw [if_neg hl] at hk; exact hk.elim
def opIxL : Op2 := fun _ r1 r2 => match r1, r2 with
  | .l js, .d (.int i) => (atI js i).map R.o
  | _, _ => none
theorem opIxL_ap (g : G) (js : List Nat) (i : Int) : opIxL g (.l js) (.d (.int i)) = (atI js i).map R.o := id rfl
def oIxL : D2 := fun r1 r2 g k => ∃ js i j, r1 = .l js ∧ r2 = .d (.int i) ∧ atI js i = some j ∧ k (.o j) g
theorem paired_at {α β : Type} {P : α → β → Prop} : ∀ {xs : List α} {ys : List β} {n : Nat} {y : β}, Paired P xs ys → ys[n]? = some y → ∃ x, xs[n]? = some x ∧ P x y
  | _, _, n, y, .nil, h => by simp at h
  | _, _, 0, y, .cons a b, h => by cases h; exact ⟨_, rfl, a⟩
  | _, _, n + 1, y, .cons a b, h => by
    obtain ⟨x, h1, h2⟩ := paired_at (n := n) b (by simpa using h)
    exact ⟨x, by simpa using h1, h2⟩
theorem ref_ixL {K : KR} : RefOp K (fun x y H Q => rIxL K.fr x y H Q ∨ rIxT K.fr x y H Q) oIxL := by
  rintro F g tm s H B al x y r1 r2 k Q S hx hy ⟨js, i, j, rfl, rfl, e2, hk⟩ q
  have ey := dq_int hy
  subst ey
  obtain ⟨p, xs, rfl, h1, h2⟩ := hx
  have e3 : ∃ v, atI xs i = some v ∧ ∃ a, al[j]? = some a ∧ v = V.ref a := by
    unfold atI at e2 ⊢
    rw [h2.length]
    cases hi : ixN js.length i with
    | none => rw [hi] at e2; cases e2
    | some n => rw [hi] at e2; exact paired_at h2 e2
  obtain ⟨v, hv, hd⟩ := e3
  exact .inl ⟨p, xs, i, v, rfl, rfl, .inl (.inl (S.bh _ _ h1)), hv, q _ H _ g B al hk S hd⟩
theorem says_ixL : Says opIxL oIxL := fun r1 r2 g k r e hk => by
  unfold opIxL at e
  split at e
  · rename_i js i
    cases h : atI js i with
    | none => rw [h] at e; cases e
    | some j => rw [h] at e; cases e; exact ⟨js, i, j, rfl, rfl, h, hk⟩
  · cases e
theorem q_ixL (ha : PF ρ X dx a f1) (hb : PF ρ X dx b f2) (hs : PlainIx b := by intro _ _; rfl) : PF ρ X dx (.Subscript a b pos) (fOp opIxL f1 f2) := pd_mono (pe_imp (pe_ix (IxR.or ix_list ix_tup) ha hb hs) (ref_op ref_ixL)) (rd_op says_ixL)
end
end DL
set_option Elab.async false
set_option linter.all false
set_option maxRecDepth 100000
set_option maxHeartbeats 4000000
set_option autoImplicit false
namespace DL
open PySem PySem.Spec PyProof.Rows L2
def tTupA (n : Nat) (t : FGs) : FG := fun r g => match r with
  | .d (.tuple ds) => if ds.length = n then t (ds.map .d) g else .no
  | .d (.list ds) => if ds.length = n then t (ds.map .d) g else .no
  | _ => .no
@[simp] theorem tTupA_t (n : Nat) (t : FGs) (ds : List PyData) (g : G) : tTupA n t (.d (.tuple ds)) g = if ds.length = n then t (ds.map .d) g else .no := id rfl
@[simp] theorem tTupA_l (n : Nat) (t : FGs) (ds : List PyData) (g : G) : tTupA n t (.d (.list ds)) g = if ds.length = n then t (ds.map .d) g else .no := id rfl
section
variable {ρ : Root} {X : Cx} {dx : DX} {es : List Expr} {pos : Pos}
theorem pg_or {tg : Expr} {t u : TG} (h1 : PG X tg t) (h2 : PG X tg u) : PG X tg (fun v σ H Q => t v σ H Q ∨ u v σ H Q) := ⟨fun pins s σ H v w Q I r q => q.elim (h1.run pins s σ H v w Q I r) (h2.run pins s σ H v w Q I r)⟩
theorem qg_tupA {ws : List Nat} {k : Nat} {t : FGs} {n : Nat} (hc : X.calm = true) (h : PFGs ρ X dx ws es t) (hn : (assignEach es X.env).length = n := by rfl) (hst : (assignEach es X.env).findIdx? (·.1) = none := by rfl) : PFG ρ X dx ws (.Tuple es k pos) (tTupA n t) := by
  refine pg_imp (pg_or (pg_tup hc h hn hst) (pg_lst hc h hn hst)) fun v s H Q hh => ?_
  obtain ⟨F, g, tm, r, k, B, al, S, hv, hk, q⟩ := hh
  cases r with
  | d y =>
    cases y with
    | tuple ds =>
      have hk : (if ds.length = n then t (ds.map R.d) g else .no).go dx (fun _ => k) := hk
      by_cases hl : ds.length = n
      · rw [if_pos hl] at hk
        obtain ⟨a, xs, rfl, h1, h2⟩ := dq_tup hv
        exact .inl ⟨a, xs, rfl, .inl (.inl (S.bh _ _ h1)), by rw [dqall_len h2]; exact hl, F, g, tm, _, k, B, al, S, dq_paired h2, hk, q⟩
      · rw [if_neg hl] at hk; exact hk.elim
    | list ds =>
      have hk : (if ds.length = n then t (ds.map R.d) g else .no).go dx (fun _ => k) := hk
      by_cases hl : ds.length = n
      · rw [if_pos hl] at hk
        obtain ⟨a, xs, rfl, h1, h2⟩ := dq_list hv
        exact .inr ⟨a, xs, rfl, .inl (.inl (S.bh _ _ h1)), by rw [dqall_len h2]; exact hl, F, g, tm, _, k, B, al, S, dq_paired h2, hk, q⟩
      · rw [if_neg hl] at hk; exact hk.elim
    | _ => exact hk.elim
  | _ => exact hk.elim
end
end DL
set_option Elab.async false
set_option linter.all false
set_option maxRecDepth 100000
set_option maxHeartbeats 4000000
set_option autoImplicit false
namespace DL
open PySem PySem.Spec PyProof.Rows L2 PySem.W
section
variable {ρ : Root} {X : Cx} {dx : DX} {e : Expr} {es : List Expr} {pos : Pos}
abbrev BT : Int := 1048576
end
def asTups : List PyData → Option (List (List Int))
  | [] => some []
  | .tuple ds :: r => match asInts ds with
    | some ns => (asTups r).map (ns :: ·)
    | none => none
  | _ => none
theorem asTups_of : ∀ nss : List (List Int), asTups (nss.map tupD) = some nss
  | [] => rfl
  | ns :: r => by
    show (match asInts (ns.map .int) with | some ns => (asTups (r.map tupD)).map (ns :: ·) | none => none) = _
    rw [asInts_map, asTups_of r]
    rfl
def AscT (nss : List (List Int)) : Prop := nss.length < 64 ∧ (∀ n ∈ nss, ∀ m ∈ n, 0 ≤ m ∧ m < BT) ∧ (∀ n ∈ nss, n.length = (nss.headD []).length) ∧ nss.Pairwise (fun a b => TS.code BT a ≤ TS.code BT b)
instance (nss : List (List Int)) : Decidable (AscT nss) := by unfold AscT; infer_instance
def clSortA : Cl := fun g rs => match rs with
  | [r] => match seqOf g r with
    | some (false, ds) => match asTups ds with
      | some nss => if AscT nss then some (.d (.list ds)) else none
      | none => none
    | _ => none
  | _ => none
@[simp] theorem clSortA_ap (g : G) (r : R) {nss : List (List Int)} (hs : seqOf g r = some (false, nss.map tupD)) (h : AscT nss) : clSortA g [r] = some (.d (.list (nss.map tupD))) := by
  show (match seqOf g r with
    | some (false, ds) => (match asTups ds with
      | some nss => if AscT nss then some (.d (.list ds)) else none
      | none => none)
    | _ => none : Option R) = _
  rw [hs]
  show (match asTups (nss.map tupD) with
      | some nss' => if AscT nss' then some (R.d (.list (nss.map tupD))) else none
      | none => none : Option R) = _
  rw [asTups_of]
  exact if_pos h
def opNotB : Op2 := fun _ r1 r2 => match r1, r2 with
  | .d (.bool a), .d (.bool b) => some (.d (.bool (!decide (a = b))))
  | _, _ => none
@[simp] theorem opNotB_b (g : G) (a b : Bool) : opNotB g (.d (.bool a)) (.d (.bool b)) = some (.d (.bool (!decide (a = b)))) := id rfl
end DL
set_option Elab.async false
set_option linter.all false
set_option maxRecDepth 100000
set_option maxHeartbeats 4000000
set_option autoImplicit false
namespace DL
open PySem PySem.Spec PyProof.Rows L2 PySem.W
def leP (p q : Int × Int) : Bool := decide (p.1 < q.1 ∨ (p.1 = q.1 ∧ p.2 ≤ q.2))
theorem leP_iff {p q : Int × Int} : leP p q = true ↔ p.1 < q.1 ∨ (p.1 = q.1 ∧ p.2 ≤ q.2) := decide_eq_true_iff
def srtP (ps : List (Int × Int)) : List (Int × Int) := ps.mergeSort leP
theorem srtP_perm (ps : List (Int × Int)) : (srtP ps).Perm ps := List.mergeSort_perm _ _
theorem srtP_sorted (ps : List (Int × Int)) : (srtP ps).Pairwise (fun a b => leP a b = true) :=
  List.pairwise_mergeSort (le := leP) (fun a b c h1 h2 => by rw [leP_iff] at *; omega) (fun a b => by rw [Bool.or_eq_true, leP_iff, leP_iff]; omega) ps
theorem srtP_eq {ps l : List (Int × Int)} (hp : l.Perm ps) (h : l.Pairwise (fun a b => leP a b = true)) : srtP ps = l :=
  ((srtP_perm ps).trans hp.symm).eq_of_pairwise (fun a b _ _ h1 h2 => by
    rw [leP_iff] at h1 h2
    exact Prod.ext (by omega) (by omega)) (srtP_sorted ps) h
end DL
set_option Elab.async false
set_option linter.all false
set_option maxRecDepth 100000
set_option maxHeartbeats 4000000
set_option autoImplicit false
namespace DL
open PySem PySem.Spec PyProof.Rows L2
section
open PySem.SeqAt
open PySem.AutoSeq1 (wpAny_loadPart')
open PySem.MeetsSeq PySem.MeetsSeq2 PySem.MeetsSeq3
theorem tuple_mul1 (l : Addr) (items : Array Value) (n : Nat) (dd : Option Addr) (sl : Array (Option Value)) (u : Tok) :
    Meets (Builtin.«tuple.__mul__» ⟨[.ref l, .int 1 u], []⟩) (fun _ R s => s.heap.get? l = some { cls := .type "tuple", dict := dd, data := .seq items n, slots := sl } ∧ R (.ok (.ret (Value.ref l))) s) :=
  .of_wp fun prog w A R s h => by
    obtain ⟨hp, g, d, tk, os⟩ := s
    obtain ⟨hl, h⟩ := h
    have f1 := AutoSeq1.idx_int
    have c1 : (items.isEmpty || (1 : Int) == 1) = true := by rw [show ((1 : Int) == 1) = true from rfl, Bool.or_true]
    wp_walk using wpAny_loadPart' hl
    exact ⟨_, rfl, h⟩
end
def rRepT1 (K : PySem.W.Frag) : R2 := fun x y H Q => ∃ l xs, x = .ref l ∧ y = .int 1 ∧ SqT K H l xs ∧ Q (.ref l) H
section
variable {ρ : Root} {X : Cx} {dx : DX} {a b : Expr} {f1 f2 : FE} {pos : Pos}
theorem op_repT1 : OpR X (binaryOp .Mult) (rRepT1 X.K) := by
  intro pins s σ H x y v u Q I rx ry h
  obtain ⟨l, xs, rfl, rfl, hT, q⟩ := h
  cases rx
  obtain ⟨t, rfl⟩ := ry
  obtain ⟨its, r, ⟨⟨cls, dd, data, sl⟩, ho, hc, n, hd⟩, hs⟩ := I.tuple hT
  simp only at hc hd
  subst hc hd
  exact wpAny_binaryOp_repeat_ref (T := "tuple") (U := "int") (by decide) ⟨_, ho, rfl⟩ (fun s' => typeIs_int s' 1 t) noFill_tuple_mul F.fills_int_mul F.slot_int_rmul repeat_tuple F.slot_int_index.lookup
    (call_meets F.slot_int_rmul (typeIs_int s 1 t) F.entry_int_rmul (F.args_int_rmul_2 _ _) (int_rmul_tuple 1 t l its.toArray n dd sl)
      ⟨ho, rfl, ⟨_, ho, rfl⟩, call_meets F.slot_tuple_mul ⟨_, ho, rfl⟩ F.entry_tuple_mul (F.args_tuple_mul_2 _ _) (tuple_mul1 l its.toArray n dd sl t) ⟨ho, ⟨.ref l, H, I, rfl, q⟩⟩⟩)
theorem op_repTA : OpR X (binaryOp .Mult) (fun x y H Q => rRepT X.K x y H Q ∨ rRepT1 X.K x y H Q) := by
  intro pins s σ H x y v u Q I rx ry h
  rcases h with h | h
  · exact op_repT pins s σ H x y v u Q I rx ry h
  · exact op_repT1 pins s σ H x y v u Q I rx ry h
end
def oRepT : D2 := fun r1 r2 g k => ∃ d ds i, r1 = .d (.tuple (d :: ds)) ∧ r2 = .d (.int i) ∧ ds.length < 1000 ∧ 1 ≤ i ∧ i ≤ 1000 ∧ k (.d (.tuple (List.replicate i.toNat (d :: ds)).flatten)) g
theorem ref_repT {K : KR} : RefOp K (fun x y H Q => rRepT K.1 x y H Q ∨ rRepT1 K.1 x y H Q) oRepT := by
  rintro F g tm s H B al x y r1 r2 k Q S hx hy ⟨d, ds, i, rfl, rfl, hz, h1, h2, hk⟩ q
  obtain ⟨a, xs, rfl, e1, e2⟩ := dq_tup hx
  have ey := dq_int hy
  subst ey
  have hl := dqall_len e2
  rw [List.length_cons] at hl
  by_cases w : i = 1
  · subst w
    refine .inr ⟨a, xs, rfl, rfl, .inl (.inl (S.bh _ _ e1)), ?_⟩
    have ef : (List.replicate (1 : Int).toNat (d :: ds)).flatten = d :: ds := by
      show [d :: ds].flatten = _
      simp
    rw [ef] at hk
    exact q _ _ _ g B al hk S hx
  · exact .inl ⟨a, i, xs, rfl, rfl, .inl (.inl (S.bh _ _ e1)), by intro e; rw [e] at hl; simp at hl, by omega, by omega, by omega, fun p hp => new_t S hp (dqall_rep e2 _) hk q⟩
end DL
set_option Elab.async false
set_option linter.all false
set_option maxRecDepth 100000
set_option maxHeartbeats 4000000
set_option autoImplicit false
namespace DL
open PySem PySem.Spec PyProof.Rows L2
end DL
set_option Elab.async false
set_option linter.all false
set_option maxRecDepth 100000
set_option maxHeartbeats 4000000
set_option autoImplicit false
namespace DL
open PySem PySem.Spec PyProof.Rows L2
def frzK (i : Nat) (g : G) (o : Option (Option R)) : Out R := match o with
  | some (some (.o j)) => match g.ce[j]? with
    | some (.lst ds) => .ok (.d (.list ds)) ⟨g.sl.set i (some (.d (.list ds))), g.ce.set j .dead⟩
    | _ => .no
  | some (some r) => .ok r g
  | _ => .no
section
variable {K : KR} {F : Fm} {g : G} {tm : List (V × R)} {s : L2.St} {H B : Hp} {al : List Addr}
theorem Stt.reslot (S : Stt K F g tm s H B al) {i : Nat} {v : V} {r : R} (hs : s[i]? = some (some v)) (hv : RvOk K B al v r) : Stt K F ⟨g.sl.set i (some r), g.ce⟩ tm s H B al := by
  refine { rb := S.rb, ro := S.ro, rp := S.rp, ot := S.ot, fb := S.fb, bh := S.bh, fo := S.fo, pre := S.pre, len := S.len, nd := S.nd, lv := S.lv, nb := S.nb, ce := S.ce, sl := ?_, tm := S.tm, sln := (by show (g.sl.set i (some r)).length = _; rw [List.length_set]; exact S.sln) }
  intro k q e
  have e : (g.sl.set i (some r))[k]? = some (some q) := e
  by_cases h : k = i
  · subst h
    rw [List.getElem?_set] at e
    simp only [if_true] at e
    split at e
    · cases e; exact ⟨v, hs, hv⟩
    · cases e
  · rw [List.getElem?_set_ne (Ne.symm h)] at e
    exact S.sl k q e
end
end DL
set_option Elab.async false
set_option linter.all false
set_option maxRecDepth 100000
set_option maxHeartbeats 4000000
set_option autoImplicit false
namespace DL
open PySem PySem.Spec PyProof.Rows L2
end DL
set_option Elab.async false
set_option linter.all false
set_option maxRecDepth 100000
set_option maxHeartbeats 4000000
set_option autoImplicit false
namespace DL
open PySem PySem.Spec PyProof.Rows L2
end DL
set_option Elab.async false
set_option linter.all false
set_option maxRecDepth 100000
set_option maxHeartbeats 4000000
set_option autoImplicit false
namespace DL
open PySem PySem.Spec PyProof.Rows L2
end DL
set_option Elab.async false
set_option linter.all false
set_option maxRecDepth 100000
set_option maxHeartbeats 4000000
set_option autoImplicit false
namespace DL
open PySem PySem.Spec PyProof.Rows L2
end DL
set_option Elab.async false
set_option linter.all false
set_option maxRecDepth 100000
set_option maxHeartbeats 4000000
set_option autoImplicit false
namespace DL
open PySem PySem.Spec PyProof.Rows L2
end DL
set_option Elab.async false
set_option linter.all false
set_option maxRecDepth 100000
set_option maxHeartbeats 4000000
set_option autoImplicit false
namespace DL
open PySem PySem.Spec PyProof.Rows L2
end DL
set_option Elab.async false
set_option linter.all false
set_option maxRecDepth 100000
set_option maxHeartbeats 4000000
set_option autoImplicit false
namespace DL
open PySem PySem.Spec PyProof.Rows L2
end DL
set_option Elab.async false
set_option linter.all false
set_option maxRecDepth 100000
set_option maxHeartbeats 4000000
set_option autoImplicit false
namespace DL
open PySem PySem.Spec PyProof.Rows L2
end DL
set_option Elab.async false
set_option linter.all false
set_option maxRecDepth 100000
set_option maxHeartbeats 4000000
set_option autoImplicit false
namespace DL
open PySem PySem.Spec PyProof.Rows L2
end DL
set_option Elab.async false
set_option linter.all false
set_option maxRecDepth 100000
set_option maxHeartbeats 4000000
set_option autoImplicit false
namespace DL
open PySem PySem.Spec PyProof.Rows L2
end DL
set_option Elab.async false
set_option linter.all false
set_option maxRecDepth 100000
set_option maxHeartbeats 4000000
set_option autoImplicit false
namespace DL
open PySem PySem.Spec PyProof.Rows L2
end DL
set_option Elab.async false
set_option linter.all false
set_option maxRecDepth 100000
set_option maxHeartbeats 4000000
set_option autoImplicit false
namespace DL
open PySem PySem.Spec PyProof.Rows L2
end DL
set_option Elab.async false
set_option linter.all false
set_option maxRecDepth 100000
set_option maxHeartbeats 4000000
set_option autoImplicit false
namespace DL
open PySem PySem.Spec PyProof.Rows L2 PySem.W
theorem vals_ints : ∀ {ns : List Int} {us : List Value}, Vals (ns.map V.int) us → IntsAre us ns
  | [], us, h => by cases h; exact .nil
  | n :: ns, us, h => by
    cases h with
    | cons h t =>
      obtain ⟨tk, rfl⟩ := h
      exact .cons _ _ (vals_ints t)
section
variable {K : KR} {F : Fm} {g : G} {tm : List (V × R)} {s : L2.St} {H B : Hp} {al : List Addr}
/-- a tuple becomes shared -/
theorem Stt.adoptT (S : Stt K F g tm s H B al) {p : Addr} {xs : List V} (hp : H p = some (.tup xs)) : ∃ B', Same B B' ∧ B' p = some (.tup xs) ∧ Stt K F g tm s H B' al := by
  cases hb : B p with
  | some o =>
    have := S.bh _ _ hb
    rw [hp] at this
    cases this
    exact ⟨B, Same.refl _, hb, S⟩
  | none =>
    have eB : Same B (upd B p (.tup xs)) := same_new hb
    refine ⟨upd B p (.tup xs), eB, upd_same, { rb := S.rb, ro := S.ro, rp := S.rp, ot := S.ot, fb := S.fb.trans eB, bh := ?_, fo := ?_, pre := S.pre, len := S.len, nd := S.nd, lv := S.lv, nb := ?_, ce := ?_, sl := ?_, tm := ?_, sln := S.sln }⟩
    · intro a o e
      by_cases h : a = p
      · subst h; rw [upd_same] at e; cases e; exact hp
      · rw [upd_ne h] at e; exact S.bh _ _ e
    · intro a o e
      obtain ⟨h1, h2, h3⟩ := S.fo a o e
      have ne : a ≠ p := fun z => by
        subst z
        rw [hp] at h1
        cases h1
        exact S.ot a _ e
      exact ⟨h1, by rw [upd_ne ne]; exact h2, h3⟩
    · intro j a ct h1 h2 h3
      have ne : a ≠ p := fun z => S.box (List.mem_of_getElem? h1) xs (z ▸ hp)
      rw [upd_ne ne]
      exact S.nb j a ct h1 h2 h3
    · intro j a ct h1 h2
      exact ct_mono0 eB (fun o e => e) (S.ce j a ct h1 h2)
    · intro i r e
      obtain ⟨v, h1, h2⟩ := S.sl i r e
      exact ⟨v, h1, rv_mono0 eB h2⟩
    · intro q hq
      exact rv_mono0 eB (S.tm q hq)
end
end DL
set_option Elab.async false
set_option linter.all false
set_option maxRecDepth 100000
set_option maxHeartbeats 4000000
set_option autoImplicit false
namespace DL
open PySem PySem.Spec PyProof.Rows L2 PySem.W
def hT (ns : List Int) : Int := reduceHash (Builtin.Tuple.tupleHashOf (ns.map hashInt))
end DL
set_option Elab.async false
set_option linter.all false
set_option maxRecDepth 100000
set_option maxHeartbeats 4000000
set_option autoImplicit false
namespace DL
open PySem PySem.Spec PyProof.Rows L2
end DL
set_option Elab.async false
set_option linter.all false
set_option maxRecDepth 100000
set_option maxHeartbeats 4000000
set_option autoImplicit false
namespace DL
open PySem PySem.Spec PyProof.Rows L2
end DL
set_option Elab.async false
set_option linter.all false
set_option maxRecDepth 100000
set_option maxHeartbeats 4000000
set_option autoImplicit false
namespace DL
open PySem PySem.Spec PyProof.Rows L2
end DL
set_option Elab.async false
set_option linter.all false
set_option maxRecDepth 100000
set_option maxHeartbeats 4000000
set_option autoImplicit false
namespace DL
open PySem PySem.Spec PyProof.Rows L2
section
open PySem.SeqAt
open PySem.AutoSeq1 (wpAny_loadPart')
open PySem.MeetsSeq PySem.MeetsSeq2 PySem.MeetsSeq3
theorem tuple_mul0 (l : Addr) (items : Array Value) (n : Nat) (dd : Option Addr) (sl : Array (Option Value)) (u : Tok) (hi : items.isEmpty = false) :
    Meets (Builtin.«tuple.__mul__» ⟨[.ref l, .int 0 u], []⟩) (fun _ R s => s.heap.get? l = some { cls := .type "tuple", dict := dd, data := .seq items n, slots := sl } ∧
      R (.ok (.ret (Value.ref s.heap.objs.size))) { s with heap := s.heap.push { cls := Value.type "tuple", data := Data.seq #[] }, toks := s.toks }) :=
  .of_wp fun prog w A R s h => by
    obtain ⟨hp, g, d, tk, os⟩ := s
    obtain ⟨hl, h⟩ := h
    have f1 := AutoSeq1.idx_int
    have c1 : (items.isEmpty || (0 : Int) == 1) = false := by rw [hi]; rfl
    wp_walk using wpAny_loadPart' hl
    repeat (first
      | (refine wpAny_ite_false (decide_eq_false (by rw [c1]; exact Bool.false_ne_true)) ?_; wp_walk using wpAny_loadPart' hl))
    exact ⟨_, rfl, h⟩
end
def rRepT0 (K : PySem.W.Frag) : R2 := fun x y H Q => ∃ l xs, x = .ref l ∧ y = .int 0 ∧ SqT K H l xs ∧ xs ≠ [] ∧ ∀ p, H p = none → Q (.ref p) (upd H p (.tup []))
theorem op_repT0 {X : Cx} : OpR X (binaryOp .Mult) (rRepT0 X.K) := by
  intro pins s σ H x y v u Q I rx ry h
  obtain ⟨l, xs, rfl, rfl, hT, hne, q⟩ := h
  cases rx
  obtain ⟨t, rfl⟩ := ry
  obtain ⟨its, r, ⟨⟨cls, dd, data, sl⟩, ho, hc, n, hd⟩, hs⟩ := I.tuple hT
  simp only at hc hd
  subst hc hd
  have hi : its.toArray.isEmpty = false := by
    cases its with
    | nil => exact absurd (List.eq_nil_of_length_eq_zero (by rw [r.length]; rfl)) hne
    | cons a b => rfl
  refine wpAny_binaryOp_repeat_ref (T := "tuple") (U := "int") (by decide) ⟨_, ho, rfl⟩ (fun s' => typeIs_int s' 0 t) noFill_tuple_mul F.fills_int_mul F.slot_int_rmul repeat_tuple F.slot_int_index.lookup
    (call_meets F.slot_int_rmul (typeIs_int s 0 t) F.entry_int_rmul (F.args_int_rmul_2 _ _) (int_rmul_tuple 0 t l its.toArray n dd sl)
      ⟨ho, rfl, ⟨_, ho, rfl⟩, call_meets F.slot_tuple_mul ⟨_, ho, rfl⟩ F.entry_tuple_mul (F.args_tuple_mul_2 _ _) (tuple_mul0 l its.toArray n dd sl t hi) ⟨ho, ?_⟩⟩)
  refine ⟨.ref s.heap.objs.size, _, I.laid (t' := s.toks) (o := .tup []) (fun b ob q => Heap.get?_push_of_some _ q) (Nat.le_refl _) ?_, rfl, q _ (I.hok.fresh (Nat.le_refl _))⟩
  exact ⟨Nat.zero_le _, [], .nil, IsTup.new _ _⟩
theorem op_repTZ {X : Cx} : OpR X (binaryOp .Mult) (fun x y H Q => (rRepT X.K x y H Q ∨ rRepT1 X.K x y H Q) ∨ rRepT0 X.K x y H Q) := by
  intro pins s σ H x y v u Q I rx ry h
  rcases h with h | h
  · exact op_repTA pins s σ H x y v u Q I rx ry h
  · exact op_repT0 pins s σ H x y v u Q I rx ry h
def opRepZ : Op2 := fun g r1 r2 => match r1, r2 with
  | .d (.tuple (d :: ds)), .d (.int k) => if ds.length < 1000 ∧ 0 ≤ k ∧ k ≤ 1000 then some (.d (.tuple (List.replicate k.toNat (d :: ds)).flatten)) else none
  | _, _ => none
theorem opRepZ_ap (g : G) (d : PyData) (ds : List PyData) (k : Int) : opRepZ g (.d (.tuple (d :: ds))) (.d (.int k)) = if ds.length < 1000 ∧ 0 ≤ k ∧ k ≤ 1000 then some (.d (.tuple (List.replicate k.toNat (d :: ds)).flatten)) else none := id rfl
def oRepZ : D2 := fun r1 r2 g k => ∃ d ds i, r1 = .d (.tuple (d :: ds)) ∧ r2 = .d (.int i) ∧ ds.length < 1000 ∧ 0 ≤ i ∧ i ≤ 1000 ∧ k (.d (.tuple (List.replicate i.toNat (d :: ds)).flatten)) g
theorem ref_repZ {K : KR} : RefOp K (fun x y H Q => (rRepT K.1 x y H Q ∨ rRepT1 K.1 x y H Q) ∨ rRepT0 K.1 x y H Q) oRepZ := by
  rintro F g tm s H B al x y r1 r2 k Q S hx hy ⟨d, ds, i, rfl, rfl, hz, h1, h2, hk⟩ q
  by_cases w : i = 0
  · subst w
    obtain ⟨a, xs, rfl, e1, e2⟩ := dq_tup hx
    have ey := dq_int hy
    subst ey
    have hl := dqall_len e2
    rw [List.length_cons] at hl
    exact .inr ⟨a, xs, rfl, rfl, .inl (.inl (S.bh _ _ e1)), by intro e; rw [e] at hl; simp at hl, fun p hp => new_t S hp .nil hk q⟩
  · exact .inl (ref_repT F g tm s H B al x y _ _ k Q S hx hy ⟨d, ds, i, rfl, rfl, hz, by omega, h2, hk⟩ q)
theorem says_repZ : Says opRepZ oRepZ := fun r1 r2 g k r e hk => by
  unfold opRepZ at e
  split at e
  · split at e
    · rename_i h
      cases e
      exact ⟨_, _, _, rfl, rfl, h.1, h.2.1, h.2.2, hk⟩
    · cases e
  · cases e
section
variable {ρ : Root} {X : Cx} {dx : DX} {a b : Expr} {f1 f2 : FE} {pos : Pos}
theorem q_repZ (ha : PF ρ X dx a f1) (hb : PF ρ X dx b f2) : PF ρ X dx (.BinOp a .Mult b pos) (fOp opRepZ f1 f2) := pd_mono (pd_op op_repTZ ref_repZ ha hb) (rd_op says_repZ)
end
end DL
set_option Elab.async false
set_option linter.all false
set_option maxRecDepth 100000
set_option maxHeartbeats 4000000
set_option autoImplicit false
namespace DL
open PySem PySem.Spec PyProof.Rows L2
end DL
set_option Elab.async false
set_option linter.all false
set_option maxRecDepth 100000
set_option maxHeartbeats 4000000
set_option autoImplicit false
namespace DL
open PySem PySem.Spec PyProof.Rows L2 PySem.W
end DL
set_option Elab.async false
set_option linter.all false
set_option maxRecDepth 100000
set_option maxHeartbeats 4000000
set_option autoImplicit false
namespace DL
open PySem PySem.Spec PyProof.Rows L2 PySem.W
end DL
set_option Elab.async false
set_option linter.all false
set_option maxRecDepth 100000
set_option maxHeartbeats 4000000
set_option autoImplicit false
namespace DL
open PySem PySem.Spec PyProof.Rows L2 PySem.W
end DL
set_option Elab.async false
set_option linter.all false
set_option maxRecDepth 100000
set_option maxHeartbeats 4000000
set_option autoImplicit false
namespace DL
open PySem PySem.Spec PyProof.Rows L2
/-- the state of the loop: the set at S has the keys met so far -/
structure SetSt (P : Program) (w : World) (ks : List (Addr × List Int)) (i : Nat) (h : Heap) (S : Addr) (L : List (Addr × List Int)) : Prop where
  tr : ∃ es ep t, SetTR P w h S L es ep t
  got : Got ks i L
section
variable {P : Program} {w : World} {A : Around} {E : Value → Shared → Prop}
theorem SetSt.step {h h' : Heap} {S : Addr} {ks L : List (Addr × List Int)} {i : Nat} (J : SetSt P w ks i h S L) (hS : ∀ o, h.get? S = some o → h'.get? S = some o) (hk : ∀ p ∈ ks, IsT P w h' p.2 p.1) : SetSt P w ks i h' S L := by
  obtain ⟨es, ep, t, R⟩ := J.tr
  exact ⟨⟨es, ep, t, R.keep hS fun p hp => hk p (List.mem_of_mem_take (J.got.sub p hp))⟩, J.got⟩
end
end DL
set_option Elab.async false
set_option linter.all false
set_option maxRecDepth 100000
set_option maxHeartbeats 4000000
set_option autoImplicit false
namespace DL
open PySem PySem.Spec PyProof.Rows L2 PySem.W
theorem boot_srt : bootBuiltins "sorted" = some (.builtin "sorted") := by decide +kernel
end DL
set_option Elab.async false
set_option linter.all false
set_option maxRecDepth 100000
set_option maxHeartbeats 4000000
set_option autoImplicit false
namespace DL
open PySem PySem.Spec PyProof.Rows L2 PySem.W
end DL
set_option Elab.async false
set_option linter.all false
set_option maxRecDepth 100000
set_option maxHeartbeats 4000000
set_option autoImplicit false
namespace DL
open PySem PySem.Spec PyProof.Rows L2 PySem.W
end DL
set_option Elab.async false
set_option linter.all false
set_option maxRecDepth 100000
set_option maxHeartbeats 4000000
set_option autoImplicit false
namespace DL
open PySem PySem.Spec PyProof.Rows L2 PySem.W
end DL
set_option Elab.async false
set_option linter.all false
set_option maxRecDepth 100000
set_option maxHeartbeats 4000000
set_option autoImplicit false
namespace DL
open PySem PySem.Spec PyProof.Rows L2 PySem.W
section
variable {prog : Program} {w : World} {A : Around} {E : Value → Shared → Prop} {s : Shared} {l : Addr} {its : List Value} {ns : List Int} {Q : Value → Shared → Prop}
theorem sum_tupR (hh : A.handled = none) (hl : s.heap.IsTuple l its.toArray) (hi : IntsAre its ns)
    (h : ∀ h' tk t', (∀ b o, s.heap.get? b = some o → h'.get? b = some o) → Q (.int ns.sum t') { s with heap := h', toks := tk }) : wpAny (model prog w) A (call (.builtin "sum") [.ref l]) Q E s := by
  obtain ⟨xs, e⟩ := hi.allInts.items
  have hn : numsOf (intItems xs).toList = ns := by rw [← e]; exact hi.numsOf
  rw [nums_intItems] at hn
  rw [e] at hl
  have hlt : l < s.heap.objs.size := by
    obtain ⟨_, q, _⟩ := hl
    exact Heap.lt_size q
  refine call_sum_walkG (wpAny_pyIter_tuple hl ?_)
  refine ⟨s.heap.objs.size, _, _, _, _, _, numAt xs, rfl, Walks.tuple (A := A.in1) hh s.heap.objs.size l (Nat.ne_of_lt hlt) (intItems xs), ⟨⟨_, Heap.get?_push_size _ rfl, rfl, rfl⟩, hl.push _⟩, fun b hb => ?_, fun _ _ => intItems_at, fun h' tk t' hk => ?_⟩
  · show b < (s.heap.push _).objs.size
    rw [Heap.size_push]
    rcases List.mem_cons.mp hb with rfl | hb
    · exact Nat.lt_succ_self _
    · rw [List.mem_singleton.mp hb]; exact Nat.lt_succ_of_lt hlt
  · have := h h' tk t' fun b o q => hk b o (fun hm => by
      rw [List.mem_singleton.mp hm] at q
      exact Nat.lt_irrefl _ (Heap.lt_size q)) (Heap.get?_push_of_some _ q)
    have e2 : preSum (numAt xs) (intItems xs).size = ns.sum := by
      rw [show (intItems xs).size = xs.size by simp [intItems], preSum_eq, List.take_of_length_le (by simp), hn]
    rw [e2]
    exact this
end
def rSumT (K : PySem.W.Frag) : List V → Hp → VK → Prop := fun vs H Q => ∃ (a : Addr) (ns : List Int), vs = [V.ref a] ∧ SqT K H a (ns.map V.int) ∧ Q (.int ns.sum) H
def clSumT : Cl := fun g rs => match rs with
  | [r] => match seqOf g r with
    | some (true, ds) => (asInts ds).map fun bs => .d (.int bs.sum)
    | _ => none
  | _ => none
theorem clSumT_of (g : G) (ns : List Int) : clSumT g [.d (.tuple (ns.map .int))] = some (.d (.int ns.sum)) := by
  show (asInts (ns.map .int)).map _ = _
  rw [asInts_map]
  rfl
def cSumT : DCl := fun rs g k => ∃ (r : R) (ns : List Int), rs = [r] ∧ seqOf g r = some (true, ns.map .int) ∧ k (.d (.int ns.sum)) g
theorem sumT_says : SaysC clSumT cSumT := fun rs g k r e hk => by
  unfold clSumT at e
  split at e
  · split at e
    · rename_i ds hs
      cases ha : asInts ds with
      | none => rw [ha] at e; cases e
      | some ns =>
        rw [ha] at e
        cases e
        cases asInts_eq ha
        exact ⟨_, ns, rfl, hs, hk⟩
    · cases e
  · cases e
section
variable {ρ : Root} {X : Cx} {dx : DX} {e : Expr} {es : List Expr} {pos p : Pos} {fs : FAr} {da : DA}
theorem cr_sumT (hc : X.calm = true) : CallR X (.builtin "sum") (rSumT X.K) := by
  intro pins s σ H vs us Q I r h
  obtain ⟨a, ns, rfl, hs, q⟩ := h
  obtain ⟨its, rv, hl, _⟩ := I.tuple hs
  rw [Vals.ref1 r]
  exact sum_tupR (I.ok.hd hc) hl rv.ints fun h' tk t' hk => ⟨.int _, H, I.kept hk, ⟨_, rfl⟩, q⟩
theorem ref_sumT {K : KR} : RefC K (rSumT K.fr) cSumT := by
  rintro F g tm s H B al vs rs k Q S pr ⟨r, ns, rfl, hs, hk⟩ q
  obtain ⟨v, rfl, hv⟩ := pair1 pr
  obtain ⟨a, xs, rfl, h1, h2⟩ := S.seq hv hs
  cases dqall_ints h2
  exact ⟨a, ns, rfl, h1, q _ H _ g B al hk S (Dq.int _)⟩
theorem q_sumT (hc : X.calm = true) (hg : Gl X "sum") (hm : X.mg "sum" = none) (ha : PFA ρ X dx (e :: es) fs) (he : starEach (e :: es) X.env = (false, eval e X.env) :: starEach es X.env := by rfl) (hpl : (backTo pos (starEach es X.env)).any (·.1) = false := by rfl) : PF ρ X dx (.Call (.Name "sum" p) (e :: es) [] pos) (fCl clSumT fs) :=
  pd_mono (pd_callB (cr_sumT hc) ref_sumT hg hm (by decide +kernel) ha (he := he) (hpl := hpl)) (rd_cl sumT_says)
end
end DL
set_option Elab.async false
set_option linter.all false
set_option maxRecDepth 100000
set_option maxHeartbeats 4000000
set_option autoImplicit false
namespace DL
open PySem PySem.Spec PyProof.Rows L2 PySem.W
section
variable {K : KR} {F : Fm} {g : G} {tm : List (V × R)} {s : L2.St} {H B : Hp} {al : List Addr} {d : Addr} {j : Nat} {us : List (List L2.Key × V)} {kvs : List (List L2.Key × PyData)}
theorem same_upd {A B : Hp} {d : Addr} {o : HO} (h : Same A B) : Same (upd A d o) (upd B d o) := fun a x e => by
  by_cases z : a = d
  · subst z; rw [upd_same] at e ⊢; exact e
  · rw [upd_ne z] at e ⊢; exact h _ _ e
end
end DL
set_option Elab.async false
set_option linter.all false
set_option maxRecDepth 100000
set_option maxHeartbeats 4000000
set_option autoImplicit false
namespace DL
open PySem PySem.Spec PyProof.Rows L2 PySem.W
end DL
set_option Elab.async false
set_option linter.all false
set_option maxRecDepth 100000
set_option maxHeartbeats 4000000
set_option autoImplicit false
namespace DL
open PySem PySem.Spec PyProof.Rows L2 PySem.W
mutual
theorem nested_of {B H : Hp} {P : Program} {w : World} {h : Heap} (e : Same B H) (ok : HOk P w H h) : ∀ (k : NestedKey) (v : V) (u : Value), Dq B v k.data → RelV v u → NestedIs h k u
  | .none, v, u, q, r => by
    simp only [NestedKey.data] at q
    cases q
    have r : u = .none := r
    subst r
    exact .none
  | .num i, v, u, q, r => by
    simp only [NestedKey.data] at q
    cases q
    obtain ⟨t, rfl⟩ := r
    exact .int i t
  | .text x, v, u, q, r => by
    simp only [NestedKey.data] at q
    cases q
    obtain ⟨t, rfl⟩ := r
    exact .text x t
  | .tup ks, v, u, q, r => by
    simp only [NestedKey.data] at q
    cases q with
    | tup hb hq =>
      have r : u = .ref _ := r
      subst r
      obtain ⟨_, its, rv, o, h1, h2, n, h3⟩ := ok _ _ (e _ _ hb)
      exact .tup h1 h2 h3 (nesteds_of e ok ks _ _ hq rv)
theorem nesteds_of {B H : Hp} {P : Program} {w : World} {h : Heap} (e : Same B H) (ok : HOk P w H h) : ∀ (ks : List NestedKey) (vs : List V) (us : List Value), DqAll B vs (NestedKey.datas ks) → Vals vs us → NestedAll h ks us
  | [], vs, us, q, r => by
    simp only [NestedKey.datas] at q
    cases q
    cases r
    exact .nil
  | k :: ks, vs, us, q, r => by
    simp only [NestedKey.datas] at q
    cases q with
    | cons q1 q2 =>
      cases r with
      | cons r1 r2 => exact .cons (nested_of e ok k _ _ q1 r1) (nesteds_of e ok ks _ _ q2 r2)
end
/-- what stands at b is the key k -/
def NKey (H : Hp) (k : NestedKey) (b : Addr) : Prop := (∀ (P : Program) (w : World) (h : Heap), HOk P w H h → NestedIs h k (.ref b)) ∧ k.depth ≤ 8 ∧ plainN k = true
theorem nkey_of {B H : Hp} {k : NestedKey} {b : Addr} (e : Same B H) (q : Dq B (.ref b) k.data) (hd : k.depth ≤ 8) (hp : plainN k = true) : NKey H k b := ⟨fun P w h ok => nested_of e ok k _ _ q rfl, hd, hp⟩
mutual
theorem hash_any (w w' : World) : ∀ k : NestedKey, plainN k = true → k.hash w = k.hash w'
  | .none, _ => rfl
  | .num _, _ => rfl
  | .text _, h => by simp [plainN] at h
  | .tup ks, h => by
    simp only [plainN] at h
    simp only [NestedKey.hash, hashes_any w w' ks h]
theorem hashes_any (w w' : World) : ∀ ks : List NestedKey, plainNs ks = true → NestedKey.hashes w ks = NestedKey.hashes w' ks
  | [], _ => rfl
  | k :: ks, h => by
    simp only [plainNs, Bool.and_eq_true] at h
    simp only [NestedKey.hashes, hash_any w w' k h.1, hashes_any w w' ks h.2]
end
def valN (us : List (NestedKey × Addr × V)) (k : NestedKey) : Option V := (us.find? fun x => decide (x.1 = k)).map (·.2.2)
def putN (us : List (NestedKey × Addr × V)) (k : NestedKey) (b : Addr) (y : V) : List (NestedKey × Addr × V) :=
  if (us.find? fun x => decide (x.1 = k)).isSome then us.map (fun x => if x.1 = k then (x.1, x.2.1, y) else x) else us ++ [(k, b, y)]
theorem NV.find {us : List (NestedKey × Addr × V)} {zs : List (NestedKey × Addr × Value)} (r : NV us zs) (k : NestedKey) : (us.find? fun x => decide (x.1 = k)).isSome = (atKey zs k).isSome := by
  unfold atKey
  rw [Option.isSome_map]
  induction r with
  | nil => rfl
  | @cons p q ps qs h t ih =>
    by_cases e : p.1 = k
    · rw [List.find?_cons_of_pos (by simp [e]), List.find?_cons_of_pos (by simp [← h.1, e])]; rfl
    · rw [List.find?_cons_of_neg (by simp [e]), List.find?_cons_of_neg (by simp [← h.1, e])]
      exact ih
theorem NV.val {us : List (NestedKey × Addr × V)} {zs : List (NestedKey × Addr × Value)} (r : NV us zs) (k : NestedKey) : RelO (valN us k) ((atKey zs k).map (·.2)) := by
  unfold valN atKey
  induction r with
  | nil => exact True.intro
  | @cons p q ps qs h t ih =>
    by_cases e : p.1 = k
    · rw [List.find?_cons_of_pos (by simp [e]), List.find?_cons_of_pos (by simp [← h.1, e])]; exact h.2.2
    · rw [List.find?_cons_of_neg (by simp [e]), List.find?_cons_of_neg (by simp [← h.1, e])]
      exact ih
theorem NV.repl {us : List (NestedKey × Addr × V)} {zs : List (NestedKey × Addr × Value)} (r : NV us zs) (k : NestedKey) {y : V} {u : Value} (ry : RelV y u) : NV (us.map fun x => if x.1 = k then (x.1, x.2.1, y) else x) (zs.map (putAt k u)) := by
  induction r with
  | nil => exact .nil
  | @cons p q ps qs h t ih =>
    rw [List.map_cons, List.map_cons]
    refine .cons ?_ ih
    unfold putAt
    by_cases e : p.1 = k
    · rw [if_pos e, if_pos (h.1.symm.trans e)]; exact ⟨h.1, h.2.1, ry⟩
    · rw [if_neg e, if_neg (fun z => e (h.1.trans z))]; exact h
theorem NV.put {us : List (NestedKey × Addr × V)} {zs : List (NestedKey × Addr × Value)} (r : NV us zs) (k : NestedKey) (b : Addr) {y : V} {u : Value} (ry : RelV y u) : NV (putN us k b y) (storedH zs k b u) := by
  unfold putN storedH
  rw [r.find k]
  by_cases q : (atKey zs k).isSome = true
  · rw [if_pos q, if_pos q]; exact r.repl k ry
  · rw [if_neg q, if_neg q]; exact Paired.snoc r ⟨rfl, rfl, ry⟩
theorem putN_len (us : List (NestedKey × Addr × V)) (k : NestedKey) (b : Addr) (y : V) : (putN us k b y).length ≤ us.length + 1 := by
  unfold putN
  split
  · rw [List.length_map]; omega
  · rw [List.length_append]; simp
theorem putN_keys (us : List (NestedKey × Addr × V)) (k : NestedKey) (b : Addr) (y : V) : (putN us k b y).map (·.1) = if (us.find? fun x => decide (x.1 = k)).isSome then us.map (·.1) else us.map (·.1) ++ [k] := by
  unfold putN
  split
  · rw [List.map_map]
    refine List.map_congr_left fun x _ => ?_
    show (if x.1 = k then (x.1, x.2.1, y) else x).1 = x.1
    split <;> rfl
  · rw [List.map_append]; rfl
theorem putN_nd {us : List (NestedKey × Addr × V)} {k : NestedKey} {b : Addr} {y : V} (h : (us.map (·.1)).Nodup) : ((putN us k b y).map (·.1)).Nodup := by
  rw [putN_keys]
  split
  · exact h
  · rename_i hn
    refine List.nodup_append.mpr ⟨h, by simp, fun a ha c hc e => ?_⟩
    rw [List.mem_singleton.mp hc] at e
    subst e
    obtain ⟨x, hx, rfl⟩ := List.mem_map.mp ha
    exact hn (List.find?_isSome.mpr ⟨x, hx, by simp⟩)
theorem putN_all {us : List (NestedKey × Addr × V)} {k : NestedKey} {b : Addr} {y : V} {Pr : NestedKey → Prop} (h : ∀ u ∈ us, Pr u.1) (hk : Pr k) : ∀ u ∈ putN us k b y, Pr u.1 := fun u hu => by
  have : u.1 ∈ (putN us k b y).map (·.1) := List.mem_map.mpr ⟨u, hu, rfl⟩
  rw [putN_keys] at this
  have old : ∀ z ∈ us.map (·.1), Pr z := fun z hz => by
    obtain ⟨x, hx, rfl⟩ := List.mem_map.mp hz
    exact h x hx
  split at this
  · exact old _ this
  · rcases List.mem_append.mp this with w | w
    · exact old _ w
    · rw [List.mem_singleton.mp w]; exact hk
theorem dnP_stay {a : Addr} {us : List (NestedKey × Addr × V)} : ∀ h1 h2 : Heap, dnP a us h1 → (∀ o, h1.get? a = some o → h2.get? a = some o) → dnP a us h2 := fun h1 h2 ⟨z1, z2, z3, z4, zs, z5, o, es, ep, z6, z7⟩ k => ⟨z1, z2, z3, z4, zs, z5, o, es, ep, k _ z6, z7⟩
theorem dnO_ok {P : Program} {w : World} {H : Hp} {h : Heap} {a : Addr} {us : List (NestedKey × Addr × V)} (p : dnP a us h) : ObjOk P w H h a (dnO a us) := ⟨p, let ⟨_, _, _, _, _, _, o, _, _, e, _⟩ := p; ⟨o, e⟩, dnP_stay⟩
section
variable {X : Cx} {pins : List (Addr × Obj)} {σ : L2.St} {H : Hp} {s : Shared} {a : Addr} {us : List (NestedKey × Addr × V)}
theorem dn_rd (I : Inv X pins σ H s) (e : Rd H a (dnO a us)) : dnP a us s.heap := by
  rcases e with e | ⟨o, e⟩
  · exact (I.hok a _ e).1
  · exact ((I.hok a _ e).2).1
/-- the keys stand where they stood -/
def KeysAt (H : Hp) (us : List (NestedKey × Addr × V)) : Prop := ∀ u ∈ us, ∀ (P : Program) (w : World) (h : Heap), HOk P w H h → NestedIs h u.1 (.ref u.2.1)
theorem dn_of (I : Inv X pins σ H s) (e : Rd H a (dnO a us)) (hk : KeysAt H us) : us.length ≤ sizeLine ∧ (a == sysModules) = false ∧ ∃ zs, NV us zs ∧ s.heap.DictOfH (nestedKind X.prog X.w) a zs := by
  obtain ⟨z1, z2, z3, z4, zs, z5, o, es, ep, z6, z7, z8, z9⟩ := dn_rd I e
  refine ⟨z1, z2, zs, z5, o, es, ep, z6, z7, z8, ?_, fun x hx => ?_, ?_⟩
  · rw [z9 X.w]
    rfl
  · obtain ⟨i, hi, ei⟩ := List.mem_iff_getElem.mp hx
    have : ∀ {us : List (NestedKey × Addr × V)} {zs : List (NestedKey × Addr × Value)}, NV us zs → ∀ x ∈ zs, ∃ u ∈ us, u.1 = x.1 ∧ u.2.1 = x.2.1 := by
      intro us zs r
      induction r with
      | nil => intro x hx; cases hx
      | @cons p q ps qs h t ih =>
        intro x hx
        rcases List.mem_cons.mp hx with rfl | hx
        · exact ⟨p, List.mem_cons_self, h.1, h.2.1⟩
        · obtain ⟨u, h1, h2⟩ := ih x hx
          exact ⟨u, List.mem_cons_of_mem _ h1, h2⟩
    obtain ⟨u, hu, e1, e2⟩ := this z5 x hx
    rw [← e1, ← e2]
    exact ⟨hk u hu _ _ _ I.hok, (z3 u hu).2⟩
  · have : ∀ {us : List (NestedKey × Addr × V)} {zs : List (NestedKey × Addr × Value)}, NV us zs → us.map (·.1) = zs.map (·.1) := by
      intro us zs r
      induction r with
      | nil => rfl
      | cons h t ih => rw [List.map_cons, List.map_cons, h.1, ih]
    rw [← this z5]
    exact z4
variable {A : Around} {E : Value → Shared → Prop} {k : NestedKey} {b : Addr} {d : V} {r u : Value}
theorem room_n (hu : A.units + 8 < cLine) : (nestedKind X.prog X.w).room A := hu
theorem in1_units (A : Around) : A.in1.units = A.units + 1 ∨ A.in1.units ≤ A.units + 1 := .inr (by rw [Around.in1_units]; omega)
/-- d[k] -/
theorem dn_get {v : V} {Q : Value → Shared → Prop} (hu : A.units + 9 < cLine) (I : Inv X pins σ H s) (e : Rd H a (dnO a us)) (hk : KeysAt H us) (kb : NKey H k b) (l : valN us k = some v) (h : ∀ w' s', Inv X pins σ H s' → RelV v w' → Q w' s') :
    wpAny (model X.prog X.w) A (getItem (.ref a) (.ref b)) Q E s := by
  obtain ⟨z, hd, zs, rel, dd⟩ := dn_of I e hk
  obtain ⟨w', hw, rw'⟩ := RelO.some_of (v := v) (o := (atKey zs k).map (·.2)) (by rw [← l]; exact rel.val k)
  obtain ⟨p, hp, hp2⟩ := Option.map_eq_some_iff.mp hw
  refine wpAny_getItem_heap (knd := nestedKind X.prog X.w) (room_n (by rw [Around.in1_units]; omega)) ⟨kb.1 _ _ _ I.hok, kb.2.1⟩ dd hp ?_
  rw [hp2]
  exact h w' _ (I.tok _) rw'
/-- d.get(k, x) -/
theorem dn_get2 {Q : Value → Shared → Prop} (hu : A.units + 9 < cLine) (I : Inv X pins σ H s) (e : Rd H a (dnO a us)) (hk : KeysAt H us) (kb : NKey H k b) (rd : RelV d r) (h : ∀ w' s', Inv X pins σ H s' → RelV ((valN us k).getD d) w' → Q w' s') :
    wpAny (model X.prog X.w) A (call (.builtin "dict.get") [.ref a, .ref b, r]) Q E s := by
  obtain ⟨z, hd, zs, rel, dd⟩ := dn_of I e hk
  refine call_meetsIn PySem.F.slot_dict_get dd.typeIs PySem.F.entry_dict_get (PySem.F.args_dict_get_3 _ _ _) (meetsH_dict_get_default (nestedKind X.prog X.w) a b hd r) ⟨room_n (by rw [Around.in1_units]; omega), k, zs, ⟨kb.1 _ _ _ I.hok, kb.2.1⟩, dd, h _ _ (I.tok _) ?_⟩
  exact (rel.val k).getD rd
/-- d[k] = v -/
theorem dn_set {v : V} {Q : Unit → Shared → Prop} (hu : A.units + 9 < cLine) (I : Inv X pins σ H s) (e : H a = some (dnO a us)) (hk : KeysAt H us) (kb : NKey H k b) (hl : us.length < sizeLine) (rv : RelV v r) (h : ∀ s', Inv X pins σ (upd H a (dnO a (putN us k b v))) s' → Q () s') :
    wpAny (model X.prog X.w) A (setItem (.ref a) (.ref b) r) Q E s := by
  obtain ⟨z, hd, zs, rel, dd⟩ := dn_of I (.inl e) hk
  obtain ⟨_, _, z3, z4, _⟩ := dn_rd I (.inl e)
  have hz : zs.length ≤ sizeLine := by rw [← Paired.length rel]; exact z
  have hl2 : (putN us k b v).length ≤ sizeLine := by have := putN_len us k b v; omega
  refine wpAny_setItem_heap (knd := nestedKind X.prog X.w) (hsz := hz) (room_n (by rw [Around.in1_units]; omega)) ⟨kb.1 _ _ _ I.hok, kb.2.1⟩ dd fun h' dd' hs => h _ ?_
  obtain ⟨q, es, ep, hq, h2, h3, h4, _, h5⟩ := dd'
  have pl : ∀ u ∈ putN us k b v, plainN u.1 = true ∧ u.1.depth ≤ 8 := putN_all (Pr := fun k => plainN k = true ∧ k.depth ≤ 8) z3 ⟨kb.2.2, kb.2.1⟩
  have rel2 : NV (putN us k b v) (storedH zs k b r) := rel.put k b rv
  refine d_write (ob := dnO a (putN us k b v)) I (by rw [e]; exact True.intro) hs ⟨q, hq⟩ (dnO_ok ⟨hl2, hd, pl, putN_nd z4, storedH zs k b r, rel2, q, es, ep, hq, h2, h3, fun w => ?_⟩)
  rw [h4]
  have : ∀ {us : List (NestedKey × Addr × V)} {zs : List (NestedKey × Addr × Value)}, NV us zs → (∀ u ∈ us, plainN u.1 = true ∧ u.1.depth ≤ 8) → zs.map (entryOfKey (nestedKind X.prog X.w)) = zs.map (entN w) := by
    intro us zs r
    induction r with
    | nil => intro _; rfl
    | @cons p q ps qs h t ih =>
      intro ha
      rw [List.map_cons, List.map_cons, ih fun u hu => ha u (List.mem_cons_of_mem _ hu)]
      have hp := (ha p List.mem_cons_self).1
      rw [h.1] at hp
      congr 1
      show (⟨q.1.hash X.w, .ref q.2.1, q.2.2⟩ : DictEntry) = ⟨q.1.hash w, .ref q.2.1, q.2.2⟩
      rw [hash_any X.w w q.1 hp]
  exact this rel2 pl
theorem dn_typeIs (I : Inv X pins σ H s) (e : Rd H a (dnO a us)) : s.TypeIs (.ref a) "dict" ∧ (∀ b, Value.ref a = .ref b → ∃ ob, s.heap.get? b = some ob ∧ ob.dict = none) := by
  obtain ⟨_, _, _, _, _, _, o, _, _, z6, z7, _⟩ := dn_rd I e
  exact ⟨⟨o, z6, z7.1⟩, fun b q => by cases q; exact ⟨o, z6, z7.2.1⟩⟩
end
def tDGetN (td ty : TE) : TE := fun σ H Q => td σ H fun x H1 => ty σ H1 fun y H2 => ∃ a us k b v, x = .ref a ∧ Rd H2 a (dnO a us) ∧ KeysAt H2 us ∧ y = .ref b ∧ NKey H2 k b ∧ valN us k = some v ∧ Q v H2
def tDGet2N (td ty tx : TE) : TE := fun σ H Q => td σ H fun x H1 => ∃ a, x = .ref a ∧ (∃ us, Rd H1 a (dnO a us)) ∧ ty σ H1 fun y H2 => tx σ H2 fun z H3 => ∃ us k b, Rd H3 a (dnO a us) ∧ KeysAt H3 us ∧ y = .ref b ∧ NKey H3 k b ∧ Q ((valN us k).getD z) H3
def sDPutN (td ty tv : TE) : TS := fun D σ H => tv σ H fun v H1 => td σ H1 fun x H2 => ty σ H2 fun y H3 => ∃ a us k b, x = .ref a ∧ H3 a = some (dnO a us) ∧ KeysAt H3 us ∧ y = .ref b ∧ NKey H3 k b ∧ us.length < sizeLine ∧ D.nx σ (upd H3 a (dnO a (putN us k b v)))
def tDNewN : TE := fun _ H Q => ∀ p, H p = none → Q (.ref p) (upd H p (dnO p []))
section
variable {X : Cx} {o i e f value : Expr} {pos pos' apos cpos : Pos} {td ty tx tv : TE}
theorem pe_dgetN (hu : X.A.units + 9 < cLine) (ho : PE X o td) (hi : PE X i ty) (hs : NoSl i) : PE X (.Subscript o i pos) (tDGetN td ty) := by
  refine ⟨fun pins s σ H Q I h => ?_⟩
  refine subD_of PySem.F.slot_dict_getitem.lookup hs (thn (ho.run pins s σ H _ I h) fun u s1 ⟨x, H1, I1, rx, q1⟩ => thn (hi.run pins s1 σ H1 _ I1 q1) fun iv s2 ⟨y, H2, I2, ry, a, us, k, b, v, ex, g, hk, ey, kb, l, q2⟩ => ?_)
  subst ex ey
  obtain rfl : u = Value.ref a := rx
  obtain rfl : iv = Value.ref b := ry
  exact ⟨(dn_typeIs I2 g).1, dn_get hu I2 g hk kb l fun w' s3 I3 rw' => ⟨v, H2, I3, rw', q2⟩⟩
theorem pe_dget2N (hu : X.A.units + 9 < cLine) (ho : PE X o td) (he : PE X e ty) (hf : PE X f tx) (m : M2 X o "get" apos e f cpos) : PE X (.Call (.Attribute o "get" apos) [e, f] [] cpos) (tDGet2N td ty tx) := by
  refine ⟨fun pins s σ H Q I h => ?_⟩
  refine wpAny_Call_method m.base m.few m.line PySem.F.plainAttrs_dict PySem.F.slot_dict_get PySem.F.type_dict_get (thn (ho.run pins s σ H _ I h) fun u s1 ⟨x, H1, I1, rx, a, ex, ⟨us, d⟩, q1⟩ => ?_)
  subst ex
  obtain rfl : u = Value.ref a := rx
  obtain ⟨t1, t2⟩ := dn_typeIs I1 d
  refine ⟨t1, t2, ?_⟩
  rw [m.trees]
  refine Calls.callWith_builtin rfl (Calls.evalArgs_plain (Calls.spliced_cons (thn (he.run pins s1 σ H1 _ I1 q1) fun iv s2 ⟨y, H2, I2, ry, q2⟩ =>
    Calls.spliced_cons (thn (hf.run pins s2 σ H2 _ I2 q2) fun fv s3 ⟨z, H3, I3, rz, us3, k, b, g, hk, ey, kb, q3⟩ => Calls.spliced_nil ?_))))
  subst ey
  obtain rfl : iv = Value.ref b := ry
  exact dn_get2 hu I3 g hk kb rz fun w' s4 I4 rw' => ⟨_, H3, I4, rw', q3⟩
theorem ps_dputN (hu : X.A.units + 9 < cLine) (ho : PE X o td) (hi : PE X i ty) (hv : PE X value tv) (hs : swapsWith value (some (.Subscript o i pos')) pos.line X.env = pure false) :
    PS X (.Assign [.Subscript o i pos'] value pos) (sDPutN td ty tv) := by
  refine ⟨fun pins s σ H D I h => ?_⟩
  refine wpAny_Assign_Subscript (thn (hv.run pins s σ H _ I h) fun r s1 ⟨v, H1, I1, rv, q1⟩ => thn (ho.run pins s1 σ H1 _ I1 q1) fun u s2 ⟨x, H2, I2, rx, q2⟩ => thn (hi.run pins s2 σ H2 _ I2 q2) fun iv s3 ⟨y, H3, I3, ry, a, us, k, b, ex, g, hk, ey, kb, hl, q3⟩ => ?_) hs
  subst ex ey
  obtain rfl : u = Value.ref a := rx
  obtain rfl : iv = Value.ref b := ry
  exact dn_set hu I3 g hk kb hl rv fun s4 I4 => ⟨σ, _, I4, q3⟩
theorem dn_empty {P : Program} {w : World} {H : Hp} (h : Heap) (hb : sysModules < h.objs.size) : ObjOk P w H (h.push { cls := .type "dict", data := .dict #[] }) h.objs.size (dnO h.objs.size []) :=
  dnO_ok ⟨Nat.zero_le _, beq_eq_false_iff_ne.mpr (Ne.symm (Nat.ne_of_lt hb)), (fun _ h => nomatch h), List.nodup_nil, [], .nil, _, #[], 0, Heap.get?_push_size _ rfl, ⟨rfl, rfl, rfl⟩, rfl, fun w => rfl⟩
theorem pe_dnewN : PE X (.Dict [] [] pos) tDNewN := ⟨fun pins s σ H Q I h =>
  wpAny_Dict_empty ⟨.ref s.heap.objs.size, _, I.laid (a := s.heap.objs.size) (o := dnO s.heap.objs.size []) (t' := s.toks) (fun _ _ q => Heap.get?_push_of_some _ q) (Nat.le_refl _) (dn_empty s.heap I.big), rfl, h _ (I.hok.fresh (Nat.le_refl _))⟩⟩
end
end DL
set_option Elab.async false
set_option linter.all false
set_option maxRecDepth 100000
set_option maxHeartbeats 4000000
set_option autoImplicit false
namespace DL
open PySem PySem.Spec PyProof.Rows L2 PySem.W
theorem Calm.un9 {k : Nat} {A : Around} (c : Calm k A) : A.units + 9 < cLine := by have := c.units; omega
mutual
def nkOf : PyData → Option NestedKey
  | .int i => some (.num i)
  | .tuple ds => (nksOf ds).map .tup
  | _ => none
def nksOf : List PyData → Option (List NestedKey)
  | [] => some []
  | d :: ds => match nkOf d, nksOf ds with
    | some k, some ks => some (k :: ks)
    | _, _ => none
end
mutual
theorem nk_ok : ∀ (d : PyData) (k : NestedKey), nkOf d = some k → k.data = d ∧ plainN k = true
  | .none, k, h => by simp [nkOf] at h
  | .bool _, k, h => by simp [nkOf] at h
  | .int i, k, h => by
    simp only [nkOf, Option.some.injEq] at h
    subst h
    exact ⟨by simp only [NestedKey.data], by simp only [plainN]⟩
  | .str _, k, h => by simp [nkOf] at h
  | .list _, k, h => by simp [nkOf] at h
  | .dict _, k, h => by simp [nkOf] at h
  | .tuple ds, k, h => by
    simp only [nkOf] at h
    obtain ⟨ks, e, rfl⟩ := Option.map_eq_some_iff.mp h
    obtain ⟨h1, h2⟩ := nks_ok ds ks e
    exact ⟨by simp only [NestedKey.data, h1], by simp only [plainN, h2]⟩
theorem nks_ok : ∀ (ds : List PyData) (ks : List NestedKey), nksOf ds = some ks → NestedKey.datas ks = ds ∧ plainNs ks = true
  | [], ks, h => by
    simp only [nksOf, Option.some.injEq] at h
    subst h
    exact ⟨by simp only [NestedKey.datas], by simp only [plainNs]⟩
  | d :: ds, ks, h => by
    simp only [nksOf] at h
    cases h1 : nkOf d with
    | none => rw [h1] at h; cases h
    | some k =>
      cases h2 : nksOf ds with
      | none => rw [h1, h2] at h; cases h
      | some ks' =>
        rw [h1, h2] at h
        cases h
        obtain ⟨a1, a2⟩ := nk_ok d k h1
        obtain ⟨b1, b2⟩ := nks_ok ds ks' h2
        exact ⟨by simp only [NestedKey.datas, a1, b1], by simp only [plainNs, a2, b2, Bool.and_self]⟩
end
def valNP (kvs : List (NestedKey × PyData)) (k : NestedKey) : Option PyData := (kvs.find? fun x => decide (x.1 = k)).map (·.2)
def putNP (kvs : List (NestedKey × PyData)) (k : NestedKey) (x : PyData) : List (NestedKey × PyData) :=
  if (kvs.find? fun z => decide (z.1 = k)).isSome then kvs.map (fun z => if z.1 = k then (z.1, x) else z) else kvs ++ [(k, x)]
theorem NOk.find {B : Hp} {us : List (NestedKey × Addr × V)} {kvs : List (NestedKey × PyData)} (r : NOk B us kvs) (k : NestedKey) : (us.find? fun x => decide (x.1 = k)).isSome = (kvs.find? fun x => decide (x.1 = k)).isSome := by
  induction r with
  | nil => rfl
  | @cons p q ps qs h t ih =>
    by_cases e : p.1 = k
    · rw [List.find?_cons_of_pos (by simp [e]), List.find?_cons_of_pos (by simp [← h.1, e])]; rfl
    · rw [List.find?_cons_of_neg (by simp [e]), List.find?_cons_of_neg (by simp [← h.1, e])]
      exact ih
theorem NOk.val {B : Hp} {us : List (NestedKey × Addr × V)} {kvs : List (NestedKey × PyData)} (r : NOk B us kvs) (k : NestedKey) : (∃ v x, valN us k = some v ∧ valNP kvs k = some x ∧ Dq B v x) ∨ (valN us k = none ∧ valNP kvs k = none) := by
  unfold valN valNP
  induction r with
  | nil => exact .inr ⟨rfl, rfl⟩
  | @cons p q ps qs h t ih =>
    by_cases e : p.1 = k
    · rw [List.find?_cons_of_pos (by simp [e]), List.find?_cons_of_pos (by simp [← h.1, e])]
      exact .inl ⟨_, _, rfl, rfl, h.2.2⟩
    · rw [List.find?_cons_of_neg (by simp [e]), List.find?_cons_of_neg (by simp [← h.1, e])]
      exact ih
theorem NOk.repl {B : Hp} {us : List (NestedKey × Addr × V)} {kvs : List (NestedKey × PyData)} (r : NOk B us kvs) (k : NestedKey) {y : V} {x : PyData} (ry : Dq B y x) : NOk B (us.map fun z => if z.1 = k then (z.1, z.2.1, y) else z) (kvs.map fun z => if z.1 = k then (z.1, x) else z) := by
  induction r with
  | nil => exact .nil
  | @cons p q ps qs h t ih =>
    rw [List.map_cons, List.map_cons]
    refine .cons ?_ ih
    by_cases e : p.1 = k
    · rw [if_pos e, if_pos (h.1.symm.trans e)]; exact ⟨h.1, h.2.1, ry⟩
    · rw [if_neg e, if_neg (fun z => e (h.1.trans z))]; exact h
theorem NOk.put {B : Hp} {us : List (NestedKey × Addr × V)} {kvs : List (NestedKey × PyData)} (r : NOk B us kvs) {k : NestedKey} {b : Addr} {y : V} {x : PyData} (hb : Dq B (.ref b) k.data) (ry : Dq B y x) : NOk B (putN us k b y) (putNP kvs k x) := by
  unfold putN putNP
  rw [r.find k]
  by_cases q : (kvs.find? fun z => decide (z.1 = k)).isSome = true
  · rw [if_pos q, if_pos q]; exact r.repl k ry
  · rw [if_neg q, if_neg q]; exact Paired.snoc r ⟨rfl, hb, ry⟩
theorem NOk.mono {B B' : Hp} {us : List (NestedKey × Addr × V)} {kvs : List (NestedKey × PyData)} (e : Same B B') (r : NOk B us kvs) : NOk B' us kvs := paired_imp (fun _ _ z => ⟨z.1, dq_mono e z.2.1, dq_mono e z.2.2⟩) r
theorem NOk.keys {B H : Hp} {us : List (NestedKey × Addr × V)} {kvs : List (NestedKey × PyData)} (e : Same B H) (r : NOk B us kvs) : KeysAt H us := by
  induction r with
  | nil => intro u hu; cases hu
  | @cons p q ps qs h t ih =>
    intro u hu
    rcases List.mem_cons.mp hu with rfl | hu
    · exact fun P w h' ok => nested_of e ok _ _ _ h.2.1 rfl
    · exact ih u hu
theorem dq_nk {B : Hp} {v : V} {d : PyData} {k : NestedKey} (q : Dq B v d) (h : nkOf d = some k) (ht : ∀ i, k ≠ .num i) : ∃ b, v = .ref b ∧ Dq B (.ref b) k.data := by
  obtain ⟨h1, _⟩ := nk_ok d k h
  cases d with
  | none => simp [nkOf] at h
  | bool _ => simp [nkOf] at h
  | int i => simp only [nkOf, Option.some.injEq] at h; exact absurd h.symm (ht i)
  | str _ => simp [nkOf] at h
  | list _ => simp [nkOf] at h
  | dict _ => simp [nkOf] at h
  | tuple ds =>
    obtain ⟨a, xs, rfl, h2, h3⟩ := dq_tup q
    exact ⟨a, rfl, by rw [h1]; exact q⟩
/-- a tuple's key, not too deep -/
def tnk (d : PyData) : Option NestedKey := match nkOf d with
  | some (.tup ks) => if (NestedKey.tup ks).depth ≤ 8 then some (.tup ks) else none
  | _ => none
theorem tnk_ok {B H : Hp} {v : V} {d : PyData} {k : NestedKey} (e : Same B H) (q : Dq B v d) (h : tnk d = some k) : ∃ b, v = .ref b ∧ Dq B (.ref b) k.data ∧ NKey H k b := by
  unfold tnk at h
  cases h1 : nkOf d with
  | none => rw [h1] at h; cases h
  | some k0 =>
    rw [h1] at h
    cases k0 with
    | none => cases h
    | num i => cases h
    | text x => cases h
    | tup ks =>
      simp only at h
      split at h
      · rename_i hd
        cases h
        obtain ⟨b, rfl, hb⟩ := dq_nk q h1 (fun i z => nomatch z)
        exact ⟨b, rfl, hb, nkey_of e hb hd (nk_ok d _ h1).2⟩
      · cases h
def dnAt (g : G) : R → Option (List (NestedKey × PyData))
  | .o j => match g.ce[j]? with
    | some (.dN kvs) => some kvs
    | _ => none
  | .m (.dL kvs) => some kvs
  | _ => none
def ixNK (g : G) (r rk : R) : Out R := match dnAt g r, rk with
  | some kvs, .d key => match tnk key with
    | some k => match valNP kvs k with
      | some x => .ok (.d x) g
      | none => .no
    | none => .no
  | _, _ => .no
def fIxN (f fk : FE) : FE := fun g => (f g).bind fun r g1 => (fk g1).bind fun rk g2 => ixNK g2 r rk
def getNK (g : G) (r rk rx : R) : Out R := match dnAt g r, rk, rx with
  | some kvs, .d key, .d x => match tnk key with
    | some k => .ok (.d ((valNP kvs k).getD x)) g
    | none => .no
  | _, _, _ => .no
def fGetN (f fk fx : FE) : FE := fun g => (f g).bind fun r g1 => if (dnAt g1 r).isSome then (fk g1).bind fun rk g2 => (fx g2).bind fun rx g3 => getNK g3 r rk rx else .no
def putNK (g : G) (rv r rk : R) : Out Fl := match rv, r, rk with
  | .d x, .o j, .d key => match g.ce[j]? with
    | some (.dN kvs) => if kvs.length < 100000 then match tnk key with
      | some k => .ok .nx { g with ce := g.ce.set j (.dN (putNP kvs k x)) }
      | none => .no else .no
    | _ => .no
  | _, _, _ => .no
def sPutN (fd fi fv : FE) : FS := fun g => (fv g).bind fun rv g1 => (fd g1).bind fun r g2 => (fi g2).bind fun rk g3 => putNK g3 rv r rk
def fDict0N : FE := fun g => newO (.dN []) g
theorem fIxN_ap (f fk : FE) (g : G) : fIxN f fk g = (f g).bind fun r g1 => (fk g1).bind fun rk g2 => ixNK g2 r rk := id rfl
theorem fGetN_ap (f fk fx : FE) (g : G) : fGetN f fk fx g = (f g).bind fun r g1 => if (dnAt g1 r).isSome then (fk g1).bind fun rk g2 => (fx g2).bind fun rx g3 => getNK g3 r rk rx else .no := id rfl
theorem sPutN_ap (fd fi fv : FE) (g : G) : sPutN fd fi fv g = (fv g).bind fun rv g1 => (fd g1).bind fun r g2 => (fi g2).bind fun rk g3 => putNK g3 rv r rk := id rfl
theorem fDict0N_ap (g : G) : fDict0N g = newO (.dN []) g := id rfl
section
variable {K : KR} {F : Fm} {g : G} {tm : List (V × R)} {s : L2.St} {H B : Hp} {al : List Addr}
theorem dnAt_ok (S : Stt K F g tm s H B al) {v : V} {r : R} {kvs : List (NestedKey × PyData)} (hv : RvOk K B al v r) (h : dnAt g r = some kvs) : ∃ a us, v = .ref a ∧ Rd H a (dnO a us) ∧ NOk B us kvs := by
  cases r with
  | o j =>
    obtain ⟨a, ha, rfl⟩ := hv
    cases hc : g.ce[j]? with
    | none => simp only [dnAt, hc] at h; cases h
    | some ct =>
      simp only [dnAt, hc] at h
      cases ct with
      | dN kvs' =>
        cases h
        obtain ⟨us, h1, h2⟩ := S.ce j a _ ha hc
        exact ⟨a, us, rfl, .inl h1, h2⟩
      | _ => cases h
  | m ct =>
    cases ct with
    | dL kvs' =>
      cases h
      obtain ⟨a, rfl, _, o, us, h1, h2⟩ := hv
      exact ⟨a, us, rfl, .inr ⟨o, S.bh _ _ h1⟩, h2⟩
    | _ => cases h
  | d x => cases h
  | s x => cases h
  | x x => cases h
  | l x => cases h
/-- an own thing becomes shared and is changed no more -/
theorem Stt.lockF (S : Stt K F g tm s H B al) {j : Nat} {p : Addr} {ct : Ct} {o : HO} (ha : al[j]? = some p) (hc : g.ce[j]? = some ct) (nd : ct ≠ .dead) (ho : ∀ us, o ≠ .tup us) : Stt K F { g with ce := g.ce.set j .dead } tm s (upd H p o) (upd B p o) al := by
  have bd : B p = none := S.nb j p _ ha hc nd
  have eB : Same B (upd B p o) := same_new bd
  have md := List.mem_of_getElem? ha
  have other : ∀ {i : Nat} {a : Addr}, al[i]? = some a → i ≠ j → a ≠ p := fun {i a} h1 h2 z => h2 ((List.getElem?_inj (List.getElem?_eq_some_iff.mp h1).1 S.nd).mp (by rw [h1, ha, z]))
  refine { rb := S.rb, ro := S.ro, rp := S.rp, ot := S.ot, fb := S.fb.trans eB, bh := same_upd S.bh, fo := fun a u e => ?_, pre := S.pre, len := by rw [List.length_set]; exact S.len, nd := S.nd, lv := fun a hm => ?_, nb := fun i a c h1 h2 h3 => ?_, ce := fun i a c h1 h2 => ?_, sl := fun i r e => ?_, tm := fun q hq => rv_mono0 eB (S.tm q hq), sln := S.sln }
  · obtain ⟨h1, h2, h3⟩ := S.fo a u e
    have ne : a ≠ p := fun z => h3 (z ▸ md)
    exact ⟨by rw [upd_ne ne]; exact h1, by rw [upd_ne ne]; exact h2, h3⟩
  · by_cases z : a = p
    · subst z; exact ⟨_, upd_same⟩
    · rw [upd_ne z]; exact S.lv a hm
  · by_cases z : i = j
    · subst z
      have h2 : (g.ce.set i .dead)[i]? = some c := h2
      rw [List.getElem?_set_self (List.getElem?_eq_some_iff.mp hc).1] at h2
      cases h2
      exact absurd rfl h3
    · have h2 : (g.ce.set j .dead)[i]? = some c := h2
      rw [List.getElem?_set_ne (fun q => z q.symm)] at h2
      rw [upd_ne (other h1 z)]
      exact S.nb i a c h1 h2 h3
  · by_cases z : i = j
    · subst z
      have h2 : (g.ce.set i .dead)[i]? = some c := h2
      rw [List.getElem?_set_self (List.getElem?_eq_some_iff.mp hc).1] at h2
      cases h2
      rw [ha] at h1
      cases h1
      exact ⟨_, upd_same, ho⟩
    · have h2 : (g.ce.set j .dead)[i]? = some c := h2
      rw [List.getElem?_set_ne (fun q => z q.symm)] at h2
      exact ct_mono0 eB (fun u q => by rw [upd_ne (other h1 z)]; exact q) (S.ce i a c h1 h2)
  · obtain ⟨v, h1, h2⟩ := S.sl i r e
    exact ⟨v, h1, rv_mono0 eB h2⟩
end
section
variable {ρ : Root} {X : Cx} {dx : DX} {o i e f value : Expr} {pos pos' apos cpos : Pos} {fd fk fx fv : FE}
theorem q_dict0N : PF ρ X dx (.Dict [] [] pos) fDict0N := pd_mono (pe_imp pe_dnewN fun s H Q ⟨F, g, tm, k, B, al, S, hk, q⟩ => fun p hp => q _ _ _ _ B (al ++ [p]) hk ((S.own hp (ct := .dN []) ⟨[], upd_same, .nil⟩).push ⟨p, S.own_at, rfl⟩)) fun g k h => h
theorem q_ixN (hu : X.A.units + 9 < cLine) (ho : PF ρ X dx o fd) (hi : PF ρ X dx i fk) (hs : NoSl i) : PF ρ X dx (.Subscript o i pos) (fIxN fd fk) :=
  pe_imp (pe_dgetN hu ho hi hs) fun s H Q ⟨F, g, tm, kk, B, al, S, hkk, q⟩ => by
    refine ⟨F, g, tm, _, B, al, S, go_bind.mp hkk, fun x H1 r g1 B1 al1 h1 S1 => ⟨F, g1, (x, r) :: tm, _, B1, al1, S1, go_bind.mp h1, fun y H2 rk g2 B2 al2 h2 S2 => ?_⟩⟩
    have h2 : (ixNK g2 r rk).go dx kk := h2
    cases hd : dnAt g2 r with
    | none => simp only [ixNK, hd] at h2; exact h2.elim
    | some kvs =>
      cases rk with
      | d key =>
        cases hk : tnk key with
        | none => simp only [ixNK, hd, hk] at h2; exact h2.elim
        | some k =>
          obtain ⟨a, us, rfl, hr, no⟩ := dnAt_ok S2 (S2.tm (x, r) (by simp)) hd
          obtain ⟨b, rfl, hb, kb⟩ := tnk_ok S2.bh (S2.top rfl : Dq B2 y key) hk
          rcases no.val k with ⟨v, x0, e1, e2, dq⟩ | ⟨_, e2⟩
          · simp only [ixNK, hd, hk, e2] at h2
            exact ⟨a, us, k, b, v, rfl, hr, no.keys S2.bh, rfl, kb, e1, q v H2 (.d x0) g2 B2 al2 h2 ((S2.temps fun t ht => by simp [ht]).push dq)⟩
          · simp only [ixNK, hd, hk, e2] at h2
            exact h2.elim
      | _ => simp only [ixNK, hd] at h2; exact h2.elim
theorem q_getN (hu : X.A.units + 9 < cLine) (ho : PF ρ X dx o fd) (he : PF ρ X dx e fk) (hf : PF ρ X dx f fx) (hb : attributeBase o "get" X.env (eval o X.env) = eval o X.env := by rfl)
    (hfew : ((backTo cpos (starEach [e, f] X.env)).all (fun x => !x.1) && (backToKw cpos (keywordEach [] X.env)).all (fun x => x.1.isSome)
      && decide (([e, f] : List Expr).length + ([] : List Keyword).length + (if ([] : List Keyword).isEmpty then 0 else 1) < 30)) = true := by rfl)
    (hline : (apos.endLine == cpos.line) = true := by rfl) (htr : backTo cpos (starEach [e, f] X.env) = [(false, eval e X.env), (false, eval f X.env)] := by rfl) :
    PF ρ X dx (.Call (.Attribute o "get" apos) [e, f] [] cpos) (fGetN fd fk fx) :=
  pe_imp (pe_dget2N hu ho he hf ⟨hb, hfew, hline, htr⟩) fun s H Q ⟨F, g, tm, kk, B, al, S, hkk, q⟩ => by
    refine ⟨F, g, tm, _, B, al, S, go_bind.mp hkk, fun x H1 r g1 B1 al1 h1 S1 => ?_⟩
    have h1 : (if (dnAt g1 r).isSome then (fk g1).bind fun rk g2 => (fx g2).bind fun rx g3 => getNK g3 r rk rx else .no).go dx kk := h1
    by_cases hd : (dnAt g1 r).isSome = true
    · rw [if_pos hd] at h1
      obtain ⟨kvs1, hd1⟩ := Option.isSome_iff_exists.mp hd
      obtain ⟨a, us1, rfl, hr1, _⟩ := dnAt_ok S1 (S1.top rfl) hd1
      refine ⟨a, rfl, ⟨us1, hr1⟩, F, g1, _, _, B1, al1, S1, go_bind.mp h1, fun y H2 rk g2 B2 al2 h2 S2 => ⟨F, g2, _, _, B2, al2, S2, go_bind.mp h2, fun z H3 rx g3 B3 al3 h3 S3 => ?_⟩⟩
      have h3 : (getNK g3 r rk rx).go dx kk := h3
      cases hd3 : dnAt g3 r with
      | none => simp only [getNK, hd3] at h3; exact h3.elim
      | some kvs =>
        cases rk with
        | d key =>
          cases rx with
          | d xd =>
            cases hk : tnk key with
            | none => simp only [getNK, hd3, hk] at h3; exact h3.elim
            | some k =>
              simp only [getNK, hd3, hk] at h3
              obtain ⟨a', us, e', hr, no⟩ := dnAt_ok S3 (S3.tm (V.ref a, r) (by simp)) hd3
              cases e'
              obtain ⟨b, rfl, hb', kb⟩ := tnk_ok S3.bh (S3.tm (y, R.d key) (by simp) : Dq B3 y key) hk
              refine ⟨us, k, b, hr, no.keys S3.bh, rfl, kb, ?_⟩
              have hz : Dq B3 z xd := S3.top rfl
              have dq : Dq B3 ((valN us k).getD z) ((valNP kvs k).getD xd) := by
                rcases no.val k with ⟨v, x0, e1, e2, dq⟩ | ⟨e1, e2⟩
                · rw [e1, e2]; exact dq
                · rw [e1, e2]; exact hz
              exact q _ H3 (.d ((valNP kvs k).getD xd)) g3 B3 al3 h3 ((S3.temps fun t ht => by simp [ht]).push dq)
          | _ => simp only [getNK, hd3] at h3; exact h3.elim
        | _ => simp only [getNK, hd3] at h3; exact h3.elim
    · rw [if_neg hd] at h1
      exact h1.elim
theorem qs_putN (hu : X.A.units + 9 < cLine) (ho : PF ρ X dx o fd) (hi : PF ρ X dx i fk) (hv : PF ρ X dx value fv) (hs : swapsWith value (some (.Subscript o i pos')) pos.line X.env = pure false := by rfl) :
    PFS ρ X dx (.Assign [.Subscript o i pos'] value pos) (sPutN fd fk fv) := ps_imp (ps_dputN hu ho hi hv hs) fun D s H ⟨F, g, tm, E, B, al, S, h, ok⟩ =>
  ⟨F, g, tm, _, B, al, S, go_bind.mp h, fun v H1 rv g1 B1 al1 hk1 S1 => ⟨F, g1, (v, rv) :: tm, _, B1, al1, S1, go_bind.mp hk1, fun x H2 rdd g2 B2 al2 hk2 S2 => ⟨F, g2, (x, rdd) :: (v, rv) :: tm, _, B2, al2, S2, go_bind.mp hk2, fun y H3 ri g3 B3 al3 h3 S3 => by
    have h3 : (putNK g3 rv rdd ri).go dx (flK E) := h3
    cases rv with
    | d xd =>
      cases rdd with
      | o j =>
        cases ri with
        | d key =>
          cases hct : g3.ce[j]? with
          | none => simp only [putNK, hct] at h3; exact h3.elim
          | some ct =>
            cases ct with
            | dN kvs =>
              simp only [putNK, hct] at h3
              by_cases hl : kvs.length < 100000
              · rw [if_pos hl] at h3
                cases hk : tnk key with
                | none => simp only [hk] at h3; exact h3.elim
                | some k =>
                  simp only [hk] at h3
                  obtain ⟨p, hpa, ex⟩ := S3.tm (x, R.o j) (by simp)
                  have ex : x = .ref p := ex
                  subst ex
                  obtain ⟨us, h1, no⟩ := S3.ce j p _ hpa hct
                  obtain ⟨b, rfl, hb, kb⟩ := tnk_ok S3.bh (S3.top rfl : Dq B3 y key) hk
                  have hv2 : Dq B3 v xd := S3.tm (v, R.d xd) (by simp)
                  have T := S3.temps (tm' := tm) fun z hz => List.mem_cons_of_mem _ (List.mem_cons_of_mem _ (List.mem_cons_of_mem _ hz))
                  exact ⟨p, us, k, b, rfl, h1, no.keys S3.bh, rfl, kb, by rw [Paired.length no]; exact sz_lt hl, ok.nx s _ _ B3 al3 h3 (T.put hpa hct (by simp) ⟨_, upd_same, no.put hb hv2⟩)⟩
              · rw [if_neg hl] at h3; exact h3.elim
            | _ => simp only [putNK, hct] at h3; exact h3.elim
        | _ => simp only [putNK] at h3; exact h3.elim
      | _ => simp only [putNK] at h3; exact h3.elim
    | _ => simp only [putNK] at h3; exact h3.elim⟩⟩⟩
end
def frzDK (i : Nat) (g : G) (o : Option (Option R)) : Out R := match o with
  | some (some (.o j)) => match g.ce[j]? with
    | some (.dN kvs) => .ok (.m (.dL kvs)) ⟨g.sl.set i (some (.m (.dL kvs))), g.ce.set j .dead⟩
    | some (.dK kvs) => .ok (.m (.dF kvs)) ⟨g.sl.set i (some (.m (.dF kvs))), g.ce.set j .dead⟩
    | _ => .no
  | some (some r) => .ok r g
  | _ => .no
def fFrzD (i : Nat) : FE := fun g => frzDK i g g.sl[i]?
theorem fFrzD_ap (i : Nat) (g : G) : fFrzD i g = frzDK i g g.sl[i]? := id rfl
theorem frzDK_m (i : Nat) (g : G) (ct : Ct) : frzDK i g (some (some (.m ct))) = .ok (.m ct) g := id rfl
theorem frzDK_N {i j : Nat} {g : G} {kvs : List (NestedKey × PyData)} (h : g.ce[j]? = some (.dN kvs)) : frzDK i g (some (some (.o j))) = .ok (.m (.dL kvs)) ⟨g.sl.set i (some (.m (.dL kvs))), g.ce.set j .dead⟩ := by
  simp only [frzDK, h]
theorem frzDK_K {i j : Nat} {g : G} {kvs : List (L2.Key × PyData)} (h : g.ce[j]? = some (.dK kvs)) : frzDK i g (some (some (.o j))) = .ok (.m (.dF kvs)) ⟨g.sl.set i (some (.m (.dF kvs))), g.ce.set j .dead⟩ := by
  simp only [frzDK, h]
theorem pe_frz {X : Cx} {e : Expr} {t : TE} (h : PE X e t) : PE X e (fun σ H Q => t σ H fun v H1 => Q v H1 ∨ ∃ d u, H1 d = some u ∧ Mut (some u) ∧ ∀ od, Q v (upd H1 d (.frz od u))) := by
  refine ⟨fun pins s σ H Q I hw => thn (h.run pins s σ H _ I hw) fun v s1 ⟨x, H1, I1, r, q⟩ => ?_⟩
  rcases q with q | ⟨d, u, hd, mu, q⟩
  · exact ⟨x, H1, I1, r, q⟩
  · obtain ⟨od, I2⟩ := I1.lock hd mu
    exact ⟨x, _, I2, r, q od⟩
section
variable {ρ : Root} {X : Cx} {dx : DX} {pos : Pos}
theorem q_frzD (i : Nat) {x : Str} (hN : X.N[i]? = some x := by rfl) (hv : Vis X.env.scope x := by first | exact Or.inl rfl | exact Or.inr (Or.inl rfl) | exact Or.inr (Or.inr rfl)) (hd : (x == ("__debug__" : Str)) = false := by decide)
    (hcd : (x == ("__classdict__" : Str)) = false := by decide) : PF ρ X dx (.Name x pos) (fFrzD i) :=
  pe_imp (pe_frz (pe_var hN hv hd hcd)) fun s H Q ⟨F, g, tm, k, B, al, S, hk, q⟩ => by
    have hk : (frzDK i g g.sl[i]?).go dx k := hk
    cases hr : g.sl[i]? with
    | none => rw [hr] at hk; exact hk.elim
    | some o => cases o with
      | none => rw [hr] at hk; exact hk.elim
      | some r =>
        obtain ⟨v, h1, h2⟩ := S.sl i r hr
        rw [hr] at hk
        refine ⟨v, h1, ?_⟩
        have pass : (∀ j, r ≠ .o j) → k r g → Q v H ∨ ∃ d u, H d = some u ∧ Mut (some u) ∧ ∀ od, Q v (upd H d (.frz od u)) := fun _ hk => .inl (q v H r g B al hk (S.push h2))
        cases r with
        | d x => exact pass (fun j => nofun) hk
        | s x => exact pass (fun j => nofun) hk
        | x x => exact pass (fun j => nofun) hk
        | m x => exact pass (fun j => nofun) hk
        | l x => exact pass (fun j => nofun) hk
        | o j =>
          obtain ⟨p, hp, rfl⟩ := h2
          cases hc : g.ce[j]? with
          | none => simp only [frzDK, hc] at hk; exact hk.elim
          | some ct =>
            cases ct with
            | dN kvs =>
              rw [frzDK_N hc] at hk
              obtain ⟨us, h3, no⟩ := S.ce j p _ hp hc
              have bd : B p = none := S.nb j p _ hp hc (fun z => nomatch z)
              refine .inr ⟨p, dnO p us, h3, True.intro, fun od => ?_⟩
              have S1 := S.lockF (o := .frz od (dnO p us)) hp hc (fun z => nomatch z) (fun _ z => nomatch z)
              have hv : RvOk ⟨X.K, ρ⟩ (upd B p (.frz od (dnO p us))) al (.ref p) (.m (.dL kvs)) := ⟨p, rfl, (fun z => nomatch z), od, us, upd_same, no.mono (same_new bd)⟩
              exact q _ _ _ _ _ al hk ((S1.reslot h1 hv).push hv)
            | dK kvs =>
              rw [frzDK_K hc] at hk
              obtain ⟨us, h3, no⟩ := S.ce j p _ hp hc
              have bd : B p = none := S.nb j p _ hp hc (fun z => nomatch z)
              refine .inr ⟨p, .dK us, h3, True.intro, fun od => ?_⟩
              have S1 := S.lockF (o := .frz od (.dK us)) hp hc (fun z => nomatch z) (fun _ z => nomatch z)
              have hv : RvOk ⟨X.K, ρ⟩ (upd B p (.frz od (.dK us))) al (.ref p) (.m (.dF kvs)) := ⟨p, rfl, (fun z => nomatch z), od, us, upd_same, paired_imp (fun _ _ z => ⟨z.1, dq_mono (same_new bd) z.2⟩) no⟩
              exact q _ _ _ _ _ al hk ((S1.reslot h1 hv).push hv)
            | _ => simp only [frzDK, hc] at hk; exact hk.elim
end
end DL
set_option Elab.async false
set_option linter.all false
set_option maxRecDepth 100000
set_option maxHeartbeats 4000000
set_option autoImplicit false
namespace DL
open PySem PySem.Spec PyProof.Rows L2 PySem.W
section
variable {X : Cx} {pins : List (Addr × Obj)} {σ : L2.St} {H : Hp} {s : Shared} {d : Addr} {o : Obj}
theorem nv_get {us : List (NestedKey × Addr × V)} {zs : List (NestedKey × Addr × Value)} (r : NV us zs) : ∀ {i : Nat} {u : NestedKey × Addr × V}, us[i]? = some u → ∃ z, zs[i]? = some z ∧ u.2.1 = z.2.1 ∧ RelV u.2.2 z.2.2 := by
  induction r with
  | nil => intro i u h; simp at h
  | @cons p q ps qs h t ih =>
    intro i u e
    cases i with
    | zero =>
      simp only [List.getElem?_cons_zero, Option.some.injEq] at e
      subst e
      exact ⟨q, rfl, h.2.1, h.2.2⟩
    | succ i =>
      simp only [List.getElem?_cons_succ] at e ⊢
      exact ih e
theorem frzN {us : List (NestedKey × Addr × V)} (I : Inv X pins σ H s) (h : H d = some (.frz o (dnO d us))) :
    (d == sysModules) = false ∧ s.heap.get? d = some o ∧ o.ExactDict ∧ us.length ≤ sizeLine ∧ ∃ (es : Array DictEntry) (ep : Nat), o.data = .dict es ep ∧ es.size = us.length ∧
      ∀ (i : Nat) (u : NestedKey × Addr × V), us[i]? = some u → ∃ (en : DictEntry), es[i]? = some en ∧ en.key = .ref u.2.1 ∧ RelV u.2.2 en.val := by
  obtain ⟨hd, ⟨z1, z2, z3, z4, zs, z5, o', es, ep, ho, hx, hdt, he⟩, _⟩ := I.hok d _ h
  rw [hd] at ho
  cases ho
  refine ⟨z2, hd, hx, z1, es, ep, hdt, ?_, fun i u e => ?_⟩
  · have l1 : es.toList.length = zs.length := by rw [he X.w, List.length_map]
    have l2 : us.length = zs.length := Paired.length z5
    rw [Array.length_toList] at l1
    omega
  · obtain ⟨z, hz, h1, h2⟩ := nv_get z5 e
    have : es[i]? = some (entN X.w z) := by rw [← Array.getElem?_toList, he X.w, List.getElem?_map, hz]; rfl
    exact ⟨_, this, by show Value.ref z.2.1 = _; rw [h1], h2⟩
end
def ItkN (d : Addr) (o : Obj) (us : List (NestedKey × Addr × V)) : It :=
  ⟨fun i H => H d = some (.frz o (dnO d us)) ∧ i < us.length, fun i H x H' => H' = H ∧ ∃ u, us[i]? = some u ∧ x = .ref u.2.1, fun i H => H d = some (.frz o (dnO d us)) ∧ us.length ≤ i⟩
def ItiN (d : Addr) (o : Obj) (us : List (NestedKey × Addr × V)) : It :=
  ⟨fun i H => H d = some (.frz o (dnO d us)) ∧ i < us.length, fun i H x H' => ∃ T u, us[i]? = some u ∧ x = .ref T ∧ H T = none ∧ H' = upd H T (.tup [.ref u.2.1, u.2.2]), fun i H => H d = some (.frz o (dnO d us)) ∧ us.length ≤ i⟩
section
variable {P : Program} {w : World} {K : PySem.W.Frag} {tg : Expr} {d : Addr} {o : Obj} {es : Array DictEntry} {ep : Nat} {us : List (NestedKey × Addr × V)}
theorem turn_keysN (it : Addr) (hod : o.data = .dict es ep) : Turn P w K tg (ItkN d o us) [it] it (fun i h => h.IsKeyIter it d i us.length ep) where
  mem := by simp
  obj := fun i h st b hb => by
    have e : b = it := by simpa using hb
    subst e
    obtain ⟨oi, e, c, dd⟩ := st
    exact ⟨oi, e, fun v z => by rw [dd] at z; cases z⟩
  keep := fun i h h' st k => st.at fun oi e => k it (by simp) oi e
  item := by
    intro X hP hw hK hc i pins s σ H E I hf st hg
    subst hP hw hK
    obtain ⟨hd, hi⟩ := hg
    obtain ⟨f0, f1, f2, f3, f4, f5⟩ := hf it (by simp)
    obtain ⟨hs, hgd, hx, _, es', ep', hdt, hsz, ent⟩ := frzN I hd
    obtain ⟨rfl, rfl⟩ := dict_ep hod hdt
    obtain ⟨u, hu⟩ : ∃ p, us[i]? = some p := ⟨us[i], List.getElem?_eq_getElem hi⟩
    obtain ⟨en, hen, hkey, _⟩ := ent i u hu
    refine next_key_item st hgd hdt hsz hen fun h' st' sb => ?_
    have I1 : Inv X pins σ H { s with heap := h' } := I.turned (t' := s.toks) (fun b ob hb e => (sb.2 b hb).trans e) f0 f1 f3 f4 f5
    obtain ⟨oi, e, c, dd⟩ := id st'
    exact ⟨en.key, rfl, go_of (s := { s with heap := h' }) e c dd (by decide) ⟨.ref u.2.1, H, I1, hkey, ⟨rfl, u, hu, rfl⟩, st', fun b hb => (hf b hb).1⟩⟩
  done := by
    intro X hP hw hK hc i pins s σ H E I hf st hg
    subst hP hw hK
    obtain ⟨hd, hi⟩ := hg
    obtain ⟨f0, f1, f2, f3, f4, f5⟩ := hf it (by simp)
    obtain ⟨hs, hgd, hx, _, es', ep', hdt, hsz, ent⟩ := frzN I hd
    obtain ⟨rfl, rfl⟩ := dict_ep hod hdt
    exact next_key_end (I.ok.hd hc) st hgd hdt hsz hi fun h' eb => ⟨rfl, I.turned (t' := s.toks) (fun b ob hb e => eb b ob hb e) f0 f1 f3 f4 f5⟩
  self := fun A i s Q E st h => by
    refine wpAny_pyIter_slot st.typeIs F.slot_dict_keyiterator_iter (wpAny_call_entry F.slot_dict_keyiterator_iter st.typeIs F.entry_dict_keyiterator_iter ?_ (F.args_dict_keyiterator_iter_1 _))
    show wpAny _ _ (ret (.ref it)) _ _ s
    exact wpAny_pure ⟨_, rfl, "dict_keyiterator", _, st.typeIs, F.slot_dict_keyiterator_next.lookup, h⟩
theorem turn_itemsN {elts : List Expr} {kk : Nat} {tpos : Pos} (it : Addr) (hod : o.data = .dict es ep) :
    Turn P w K (.Tuple elts kk tpos) (ItiN d o us) [it] it (fun i h => ∃ ok ov, IsItemIter h it d i us.length ep ok ov) where
  mem := by simp
  obj := fun i h st b hb => by
    have e : b = it := by simpa using hb
    subst e
    obtain ⟨ok, ov, e⟩ := st
    exact ⟨_, e, fun v z => nomatch z⟩
  keep := fun i h h' st k => let ⟨ok, ov, e⟩ := st; ⟨ok, ov, k it (by simp) _ e⟩
  item := by
    intro X hP hw hK hc i pins s σ H E I hf st hg
    subst hP hw hK
    obtain ⟨hd, hi⟩ := hg
    obtain ⟨hs, hgd, hx, _, es', ep', hdt, hsz, ent⟩ := frzN I hd
    obtain ⟨rfl, rfl⟩ := dict_ep hod hdt
    obtain ⟨u, hu⟩ : ∃ p, us[i]? = some p := ⟨us[i], List.getElem?_eq_getElem hi⟩
    obtain ⟨en, hen, hkey, rv⟩ := ent i u hu
    obtain ⟨ok, ov, he⟩ := st
    have hie : i < es'.size := by omega
    have een : es'[i] = en := by rw [Array.getElem?_eq_getElem hie] at hen; exact Option.some.inj hen
    rw [← hsz] at he
    have hlt : it < s.heap.objs.size := Heap.lt_size he
    refine DT.nextI he ⟨o, hgd, hx, hdt⟩ hie fun h' ho hT hz hk => ?_
    rw [een] at ho hT
    refine ⟨_, rfl, wpAny_letOwnedTupleGo_items (s := { s with heap := h' }) ho fun h'' he' sb => ?_⟩
    have hT2 : h''.get? s.heap.objs.size = some { cls := .type "tuple", data := .seq #[en.key, en.val] } := (sb.2 _ (Nat.ne_of_gt hlt)).trans hT
    have new : ObjOk X.prog X.w (upd H s.heap.objs.size (.tup [.ref u.2.1, u.2.2])) h'' s.heap.objs.size (.tup [.ref u.2.1, u.2.2]) :=
      ⟨by show 2 ≤ sizeLine; decide, [en.key, en.val], .cons hkey (.cons rv .nil), ⟨_, hT2, rfl, _, rfl⟩⟩
    have I1 : Inv X pins σ (upd H s.heap.objs.size (.tup [.ref u.2.1, u.2.2])) { s with heap := h'' } :=
      I.turnedNew (t' := s.toks) (ch := [it]) (fun b ob hb e => (sb.2 b (by simpa using hb)).trans (hk b ob (by simpa using hb) e)) hf (Nat.le_refl _) new
    refine ⟨.ref s.heap.objs.size, _, I1, rfl, ⟨_, u, hu, rfl, I.hok.fresh (Nat.le_refl _), rfl⟩, ⟨en.key, en.val, ?_⟩, fun b hb => ?_⟩
    · rw [← hsz]; exact he'
    · have e : b = it := by simpa using hb
      rw [e, upd_ne (Nat.ne_of_lt hlt)]
      exact (hf it (by simp)).1
  done := by
    intro X hP hw hK hc i pins s σ H E I hf st hg
    subst hP hw hK
    obtain ⟨hd, hi⟩ := hg
    obtain ⟨f0, f1, f2, f3, f4, f5⟩ := hf it (by simp)
    obtain ⟨hs, hgd, hx, _, es', ep', hdt, hsz, ent⟩ := frzN I hd
    obtain ⟨rfl, rfl⟩ := dict_ep hod hdt
    obtain ⟨ok, ov, he⟩ := st
    rw [← hsz] at he
    exact DT.endI (I.ok.hd hc) he ⟨o, hgd, hx, hdt⟩ (by omega) fun h' eb => ⟨rfl, I.turned (t' := s.toks) (fun b ob hb e => eb b ob hb e) f0 f1 f3 f4 f5⟩
  self := fun A i s Q E st h => let ⟨_, _, e⟩ := st; PySem.W.kcp_self e h
end
def iKeysN (td : TE) : TI := fun σ H R => td σ H fun x H1 => ∃ d o us, x = .ref d ∧ H1 d = some (.frz o (dnO d us)) ∧ R (ItkN d o us) H1
def iItemsN (td : TE) : TI := fun σ H R => td σ H fun x H1 => ∃ d o us, x = .ref d ∧ H1 d = some (.frz o (dnO d us)) ∧ R (ItiN d o us) H1
section
variable {X : Cx} {tg e : Expr} {td : TE} {apos cpos : Pos}
theorem pi_keysN (he : PE X e td) : PI X tg e (iKeysN td) := by
  refine ⟨fun pins s σ H R I h => ?_⟩
  refine thn (he.run pins s σ H _ I h) fun u s1 ⟨x, H1, I1, rx, d, o, us, ex, hd, q⟩ => ?_
  subst ex
  obtain rfl : u = Value.ref d := rx
  obtain ⟨hs, hgd, hx, _, es, ep, hdt, hsz, ent⟩ := frzN I1 hd
  refine iter_keys hs hgd hx hdt (pi_one (tk := s1.toks) I1 _ (turn_keysN _ hdt) ⟨_, Heap.get?_push_size _ rfl, rfl, ?_⟩ q)
  rw [hsz] <;> rfl
theorem pi_itemsN {elts : List Expr} {kk : Nat} {tpos : Pos} (he : PE X e td) (hbase : attributeBase e "items" X.env (eval e X.env) = eval e X.env := by rfl) (hline : (apos.endLine == cpos.line) = true := by rfl) :
    PI X (.Tuple elts kk tpos) (.Call (.Attribute e "items" apos) [] [] cpos) (iItemsN td) := by
  refine ⟨fun pins s σ H R I h => ?_⟩
  refine wpAny_Call_method (T := "dict") (id := "dict.items") hbase rfl hline F.plainAttrs_dict F.slot_dict_items F.type_dict_items (thn (he.run pins s σ H _ I h) fun u s1 ⟨x, H1, I1, rx, d, o, us, ex, hd, q⟩ => ?_)
  subst ex
  obtain rfl : u = Value.ref d := rx
  obtain ⟨hs, hgd, hx, _, es, ep, hdt, hsz, ent⟩ := frzN I1 hd
  have raw : DT.Raw s1.heap d es ep := ⟨o, hgd, hx, hdt⟩
  refine ⟨raw.typeIs, fun b q => by cases q; exact ⟨o, hgd, hx.2.1⟩, ?_⟩
  have I2 : Inv X pins σ H1 { s1 with heap := s1.heap.push { cls := .type "dict_items", data := .fields #[.ref d] } } := I1.kept (t' := s1.toks) fun b ob q => Heap.get?_push_of_some _ q
  have fin : wpAny (model X.prog X.w) X.A (pyIter (.ref s1.heap.objs.size)) (PIE X pins σ (.Tuple elts kk tpos) R) X.xe { s1 with heap := s1.heap.push { cls := .type "dict_items", data := .fields #[.ref d] } } := by
    refine DT.iterI (d := d) (es := es) (ep := ep) ⟨_, Heap.get?_push_size _ rfl, rfl, rfl⟩ (raw.push _) (pi_one (tk := s1.toks) I2 _ (turn_itemsN _ hdt) ⟨.none, .none, ?_⟩ q)
    rw [← hsz]
    exact Heap.get?_push_size _ rfl
  show wpAny _ _ (callWith cpos (.builtin "dict.items") [.ref d] [] []) _ X.xe s1
  exact method_meetsIn F.slot_dict_items F.entry_dict_items rfl (PySem.evalArgs_none ⟨rfl, raw.typeIs, F.args_dict_items_1 _, _, DT.meetsItems hs, ⟨raw, fin⟩⟩)
end
def itemN (kv : NestedKey × PyData) : PyData := .tuple [kv.1.data, kv.2]
def iItD (f : FE) : FI := fun g => (f g).bind fun r g1 => match r with
  | .m (.dL kvs) => .ok (kvs.map itemN) g1
  | _ => .no
def iKyD (f : FE) : FI := fun g => (f g).bind fun r g1 => match r with
  | .m (.dL kvs) => .ok (kvs.map fun kv => kv.1.data) g1
  | _ => .no
theorem iItD_ap (f : FE) (g : G) : iItD f g = (f g).bind fun r g1 => match r with
  | .m (.dL kvs) => .ok (kvs.map itemN) g1
  | _ => .no := id rfl
theorem iKyD_ap (f : FE) (g : G) : iKyD f g = (f g).bind fun r g1 => match r with
  | .m (.dL kvs) => .ok (kvs.map fun kv => kv.1.data) g1
  | _ => .no := id rfl
theorem nok_get {B : Hp} {us : List (NestedKey × Addr × V)} {kvs : List (NestedKey × PyData)} (r : NOk B us kvs) : ∀ {i : Nat} {q : NestedKey × PyData}, kvs[i]? = some q → ∃ u, us[i]? = some u ∧ Dq B (.ref u.2.1) q.1.data ∧ Dq B u.2.2 q.2 := by
  induction r with
  | nil => intro i u h; simp at h
  | @cons p q ps qs h t ih =>
    intro i u e
    cases i with
    | zero =>
      simp only [List.getElem?_cons_zero, Option.some.injEq] at e
      subst e
      exact ⟨p, rfl, by rw [← h.1]; exact h.2.1, h.2.2⟩
    | succ i =>
      simp only [List.getElem?_cons_succ] at e ⊢
      exact ih e
theorem walk_kN {K : KR} {B0 : Hp} {d : Addr} {od : Obj} {us : List (NestedKey × Addr × V)} {kvs : List (NestedKey × PyData)} (hd : B0 d = some (.frz od (dnO d us))) (no : NOk B0 us kvs) : WalkOk K B0 (ItkN d od us) (kvs.map fun kv => kv.1.data) := fun F g tm s H B1 al i S e => by
  have hH : H d = some (.frz od (dnO d us)) := S.bh _ _ (e _ _ hd)
  have lu : us.length = kvs.length := Paired.length no
  refine ⟨fun x hx => ?_, fun hi => ⟨hH, by rw [hi, List.length_map]; omega⟩⟩
  rw [List.getElem?_map] at hx
  obtain ⟨q, hq, rfl⟩ := Option.map_eq_some_iff.mp hx
  obtain ⟨u, hu, q1, q2⟩ := nok_get no hq
  have hi : i < us.length := (List.getElem?_eq_some_iff.mp hu).1
  refine ⟨⟨hH, hi⟩, fun y H' ⟨e1, u', h1, h2⟩ => ?_⟩
  subst e1 h2
  rw [hu] at h1
  cases h1
  exact ⟨B1, S, Same.refl _, dq_mono e q1⟩
theorem walk_iN {K : KR} {B0 : Hp} {d : Addr} {od : Obj} {us : List (NestedKey × Addr × V)} {kvs : List (NestedKey × PyData)} (hd : B0 d = some (.frz od (dnO d us))) (no : NOk B0 us kvs) : WalkOk K B0 (ItiN d od us) (kvs.map itemN) := fun F g tm s H B1 al i S e => by
  have hH : H d = some (.frz od (dnO d us)) := S.bh _ _ (e _ _ hd)
  have lu : us.length = kvs.length := Paired.length no
  refine ⟨fun x hx => ?_, fun hi => ⟨hH, by rw [hi, List.length_map]; omega⟩⟩
  rw [List.getElem?_map] at hx
  obtain ⟨q, hq, rfl⟩ := Option.map_eq_some_iff.mp hx
  obtain ⟨u, hu, q1, q2⟩ := nok_get no hq
  have hi : i < us.length := (List.getElem?_eq_some_iff.mp hu).1
  refine ⟨⟨hH, hi⟩, fun y H' ⟨T, u', h1, h2, h3, h4⟩ => ?_⟩
  subst h2 h4
  rw [hu] at h1
  cases h1
  have eB : Same B1 (upd B1 T (.tup [.ref u.2.1, u.2.2])) := same_new (S.bh.free h3)
  exact ⟨_, S.grow h3, eB, Dq.tup upd_same (.cons (dq_mono (e.trans eB) q1) (.cons (dq_mono (e.trans eB) q2) .nil))⟩
section
variable {ρ : Root} {X : Cx} {dx : DX} {tg e : Expr} {apos cpos : Pos} {f : FE}
theorem qi_kyD (he : PF ρ X dx e f) : PFI ρ X dx tg e (iKyD f) := pi_imp (pi_keysN he) fun s H Q ⟨F, g, tm, k, B, al, S, hk, q⟩ => by
  refine ⟨F, g, tm, _, B, al, S, go_bind.mp hk, fun x H1 r g1 B1 al1 h1 S1 => ?_⟩
  split at h1
  · rename_i kvs
    obtain ⟨a, rfl, _, o, us, h2, no⟩ : RvOk ⟨X.K, ρ⟩ B1 al1 x (.m (.dL kvs)) := S1.top rfl
    exact ⟨a, o, us, rfl, S1.bh _ _ h2, q (ItkN a o us) H1 _ g1 B1 al1 h1 (S1.temps fun p hp => List.mem_cons_of_mem _ hp) (walk_kN h2 no)⟩
  · exact h1.elim
theorem qi_itD {elts : List Expr} {kk : Nat} {tpos : Pos} (he : PF ρ X dx e f) (hbase : attributeBase e "items" X.env (eval e X.env) = eval e X.env := by rfl) (hline : (apos.endLine == cpos.line) = true := by rfl) :
    PFI ρ X dx (.Tuple elts kk tpos) (.Call (.Attribute e "items" apos) [] [] cpos) (iItD f) := pi_imp (pi_itemsN he hbase hline) fun s H Q ⟨F, g, tm, k, B, al, S, hk, q⟩ => by
  refine ⟨F, g, tm, _, B, al, S, go_bind.mp hk, fun x H1 r g1 B1 al1 h1 S1 => ?_⟩
  split at h1
  · rename_i kvs
    obtain ⟨a, rfl, _, o, us, h2, no⟩ : RvOk ⟨X.K, ρ⟩ B1 al1 x (.m (.dL kvs)) := S1.top rfl
    exact ⟨a, o, us, rfl, S1.bh _ _ h2, q (ItiN a o us) H1 _ g1 B1 al1 h1 (S1.temps fun p hp => List.mem_cons_of_mem _ hp) (walk_iN h2 no)⟩
  · exact h1.elim
end
end DL
set_option Elab.async false
set_option linter.all false
set_option maxRecDepth 100000
set_option maxHeartbeats 4000000
set_option autoImplicit false
namespace DL
open PySem PySem.Spec PyProof.Rows L2 PySem.W
def tDisp1N (tk tv : TE) : TE := fun σ H Q => ∀ p, H p = none → tk σ (upd H p (dnO p [])) fun x H1 => tv σ H1 fun y H2 => H2 p = some (dnO p []) ∧ ∃ b k, x = .ref b ∧ NKey H2 k b ∧ Q (.ref p) (upd H2 p (dnO p [(k, b, y)]))
theorem pe_disp1N {X : Cx} {pos : Pos} {k v : Expr} {tk tv : TE} (hu : X.A.units + 9 < cLine) (hk : PE X k tk) (hv : PE X v tv) : PE X (.Dict [some k] [v] pos) (tDisp1N tk tv) := by
  refine ⟨fun pins s σ H Q I q => ?_⟩
  have hn := I.hok.fresh (Nat.le_refl s.heap.objs.size)
  have I1 := I.laid (a := s.heap.objs.size) (o := dnO s.heap.objs.size []) (h' := s.heap.push { cls := .type "dict", data := .dict #[] }) (t' := s.toks) (fun _ _ q => Heap.get?_push_of_some _ q) (Nat.le_refl _) (dn_empty s.heap I.big)
  have hall : ([some k] : List (Option Expr)).all (·.isSome) = true := rfl
  have hl : ([some k] : List (Option Expr)).length = [v].length := rfl
  have hpl := pairTrees_length [some k] [v] X.env pos hall hl
  have hp0 : pairTrees [some k] [v] X.env pos ≠ [] := fun e => by rw [e] at hpl; exact nomatch hpl
  rw [arm_eval_Dict, zip_pairTrees [some k] [v] X.env pos hall hl, dictDisplay_pairs _ hp0 (by rw [hpl]; simp)]
  refine wpAny_bind (wpAny_standAt (wpAny_bind (wpAny_subDictH (knd := nestedKind X.prog X.w) (show X.A.units + 8 < cLine by omega) (by rw [hpl]; simp) ?_)))
  refine pairTrees_cons_walk (thn (hk.run pins _ σ _ _ I1 (q _ hn)) fun u s1 ⟨x, H1, I2, rx, q1⟩ => thn (hv.run pins s1 σ H1 _ I2 q1) fun w2 s2 ⟨y, H2, I3, ry, q2⟩ => pairTrees_nil_walk ?_)
  obtain ⟨e, b, ks, rfl, kb, q3⟩ := q2
  cases (show u = Value.ref b from rx)
  obtain ⟨z, hd, xs, rel, dd⟩ := dn_of I3 (.inl e) (fun _ h => nomatch h)
  cases rel
  refine ⟨[(ks, b, w2)], ⟨rfl, rfl, ⟨kb.1 _ _ _ I3.hok, kb.2.1⟩, trivial⟩, dd, fun h' tk dd' hs => wpAny_pure ⟨.ref s.heap.objs.size, _, ?_, rfl, q3⟩⟩
  obtain ⟨qq, es, ep, hq, h2, h3, h4, _, h5⟩ := dd'
  refine d_write (ob := dnO s.heap.objs.size [(ks, b, y)]) I3 (by rw [e]; exact True.intro) hs ⟨qq, hq⟩ (dnO_ok ⟨by rw [sizeLine_eq]; simp, hd, fun u hu => ?_, by simp, [(ks, b, w2)], .cons ⟨rfl, rfl, ry⟩ .nil, qq, es, ep, hq, h2, h3, fun w => ?_⟩)
  · rw [List.mem_singleton.mp hu]
    exact ⟨kb.2.2, kb.2.1⟩
  · rw [h4]
    show [(⟨ks.hash X.w, .ref b, w2⟩ : DictEntry)] = [⟨ks.hash w, .ref b, w2⟩]
    rw [hash_any X.w w ks kb.2.2]
def disp1NK (j : Nat) (g : G) (rk rv : R) : Out R := match rk, rv with
  | .d key, .d x => match tnk key with
    | some k => match g.ce[j]? with
      | some (.dN []) => .ok (.o j) { g with ce := g.ce.set j (.dN [(k, x)]) }
      | _ => .no
    | none => .no
  | _, _ => .no
def fDisp1N (fk fv : FE) : FE := fun g => (fk { g with ce := g.ce ++ [.dN []] }).bind fun rk g1 => (fv g1).bind fun rv g2 => disp1NK g.ce.length g2 rk rv
theorem fDisp1N_ap (fk fv : FE) (g : G) : fDisp1N fk fv g = (fk { g with ce := g.ce ++ [.dN []] }).bind fun rk g1 => (fv g1).bind fun rv g2 => disp1NK g.ce.length g2 rk rv := id rfl
theorem disp1NK_of {j : Nat} {sl : List (Option R)} {ce : List Ct} {key x : PyData} {k : NestedKey} (hk : tnk key = some k) (hj : ce.length = j) : disp1NK j ⟨sl, ce ++ [.dN []]⟩ (.d key) (.d x) = .ok (.o j) ⟨sl, ce ++ [.dN [(k, x)]]⟩ := by
  subst hj
  have e1 : (ce ++ [Ct.dN []])[ce.length]? = some (Ct.dN []) := by simp
  have e2 : (ce ++ [Ct.dN []]).set ce.length (.dN [(k, x)]) = ce ++ [.dN [(k, x)]] := by
    rw [List.set_append_right _ _ (Nat.le_refl _), Nat.sub_self]
    rfl
  simp only [disp1NK, hk, e1, e2]
section
variable {ρ : Root} {X : Cx} {dx : DX} {k v : Expr} {fk fv : FE} {pos : Pos}
theorem q_disp1N (hu : X.A.units + 9 < cLine) (hk : PF ρ X dx k fk) (hv : PF ρ X dx v fv) : PF ρ X dx (.Dict [some k] [v] pos) (fDisp1N fk fv) :=
  pe_imp (pe_disp1N hu hk hv) fun s H Q ⟨F, g, tm, kk, B, al, S, hkk, q⟩ => fun p hp => by
    have S1 := (S.own hp (ct := .dN []) ⟨[], upd_same, .nil⟩).push (r := .o g.ce.length) (v := .ref p) ⟨p, S.own_at, rfl⟩
    refine ⟨F, _, _, _, B, al ++ [p], S1, go_bind.mp hkk, fun v1 H1 r1 g1 B1 al1 h1 S2 => ?_⟩
    refine ⟨F, g1, _, _, B1, al1, S2, go_bind.mp h1, fun v2 H2 r2 g2 B2 al2 h2 S3 => ?_⟩
    have h2 : (disp1NK g.ce.length g2 r1 r2).go dx kk := h2
    obtain ⟨p', hp', e'⟩ : RvOk ⟨X.K, ρ⟩ B2 al2 (.ref p) (.o g.ce.length) := S3.tm (.ref p, .o g.ce.length) (by simp)
    cases e'
    cases r1 with
    | d key =>
      cases r2 with
      | d x =>
        cases hks : tnk key with
        | none => simp only [disp1NK, hks] at h2; exact h2.elim
        | some k =>
          cases hce : g2.ce[g.ce.length]? with
          | none => simp only [disp1NK, hks, hce] at h2; exact h2.elim
          | some ct =>
            cases ct with
            | dN kvs =>
              cases kvs with
              | cons q0 qs => simp only [disp1NK, hks, hce] at h2; exact h2.elim
              | nil =>
                simp only [disp1NK, hks, hce] at h2
                obtain ⟨us, hus, hpr⟩ := S3.ce g.ce.length p _ hp' hce
                cases hpr
                obtain ⟨b, rfl, hb, kb⟩ := tnk_ok S3.bh (S3.tm (v1, .d key) (by simp) : Dq B2 v1 key) hks
                have hx : Dq B2 v2 x := S3.top rfl
                refine ⟨hus, b, k, rfl, kb, ?_⟩
                have S4 := S3.put (o := dnO p [(k, b, v2)]) (ct' := .dN [(k, x)]) hp' hce (fun z => nomatch z) ⟨[(k, b, v2)], upd_same, .cons ⟨rfl, hb, hx⟩ .nil⟩
                exact q _ _ (.o g.ce.length) _ B2 al2 h2 ((S4.temps fun t ht => by simp [ht]).push ⟨p, hp', rfl⟩)
            | _ => simp only [disp1NK, hks, hce] at h2; exact h2.elim
      | _ => simp only [disp1NK] at h2; exact h2.elim
    | _ => simp only [disp1NK] at h2; exact h2.elim
end
def getKK (g : G) (r rk rx : R) : Out R := match dictAt g r, rk, rx with
  | some ct, .d key, .d x => match dGet ct key with
    | some o => .ok (.d (o.getD x)) g
    | none => .no
  | _, _, _ => .no
def fGetK (f fk fx : FE) : FE := fun g => (f g).bind fun r g1 => if (dictAt g1 r).isSome then (fk g1).bind fun rk g2 => (fx g2).bind fun rx g3 => getKK g3 r rk rx else .no
theorem fGetK_ap (f fk fx : FE) (g : G) : fGetK f fk fx g = (f g).bind fun r g1 => if (dictAt g1 r).isSome then (fk g1).bind fun rk g2 => (fx g2).bind fun rx g3 => getKK g3 r rk rx else .no := id rfl
theorem isd_ct {K : KR} {B H : Hp} {al : List Addr} {a : Addr} {ct : Ct} (h : CtOk K B al H a ct) (hd : dictC ct = true) : IsD H a := by
  cases ct with
  | dK kvs => obtain ⟨us, h1, _⟩ := h; exact .inl ⟨us, .inl h1⟩
  | dT kvs => obtain ⟨us, h1, _⟩ := h; exact .inr ⟨us, .inl h1⟩
  | _ => cases hd
section
variable {ρ : Root} {X : Cx} {dx : DX} {o e f : Expr} {apos cpos : Pos} {fd fk fx : FE}
theorem q_getK (hu : X.A.units + 1 < cLine) (ho : PF ρ X dx o fd) (he : PF ρ X dx e fk) (hf : PF ρ X dx f fx) (hb : attributeBase o "get" X.env (eval o X.env) = eval o X.env := by rfl)
    (hfew : ((backTo cpos (starEach [e, f] X.env)).all (fun x => !x.1) && (backToKw cpos (keywordEach [] X.env)).all (fun x => x.1.isSome)
      && decide (([e, f] : List Expr).length + ([] : List Keyword).length + (if ([] : List Keyword).isEmpty then 0 else 1) < 30)) = true := by rfl)
    (hline : (apos.endLine == cpos.line) = true := by rfl) (htr : backTo cpos (starEach [e, f] X.env) = [(false, eval e X.env), (false, eval f X.env)] := by rfl) :
    PF ρ X dx (.Call (.Attribute o "get" apos) [e, f] [] cpos) (fGetK fd fk fx) :=
  pe_imp (pe_dget2 hu ho he hf ⟨hb, hfew, hline, htr⟩) fun s H Q ⟨F, g, tm, kk, B, al, S, hkk, q⟩ => by
    refine ⟨F, g, tm, _, B, al, S, go_bind.mp hkk, fun x H1 r g1 B1 al1 h1 S1 => ?_⟩
    have h1 : (if (dictAt g1 r).isSome then (fk g1).bind fun rk g2 => (fx g2).bind fun rx g3 => getKK g3 r rk rx else .no).go dx kk := h1
    by_cases hd : (dictAt g1 r).isSome = true
    · rw [if_pos hd] at h1
      obtain ⟨ct1, hd1⟩ := Option.isSome_iff_exists.mp hd
      obtain ⟨a, rfl, dc1, hc1⟩ := S1.dict (S1.top rfl) hd1
      refine ⟨a, rfl, isd_ct hc1 dc1, F, g1, _, _, B1, al1, S1, go_bind.mp h1, fun y H2 rk g2 B2 al2 h2 S2 => ⟨F, g2, _, _, B2, al2, S2, go_bind.mp h2, fun z H3 rx g3 B3 al3 h3 S3 => ?_⟩⟩
      have h3 : (getKK g3 r rk rx).go dx kk := h3
      cases hd3 : dictAt g3 r with
      | none => simp only [getKK, hd3] at h3; exact h3.elim
      | some ct =>
        cases rk with
        | d key =>
          cases rx with
          | d xd =>
            cases hk : dGet ct key with
            | none => simp only [getKK, hd3, hk] at h3; exact h3.elim
            | some ov =>
              simp only [getKK, hd3, hk] at h3
              obtain ⟨a', e', _, hc⟩ := S3.dict (S3.tm (V.ref a, r) (by simp)) hd3
              cases e'
              obtain ⟨v, g0, vo⟩ := dget_ok S3 hc (S3.tm (y, R.d key) (by simp) : Dq B3 y key) hk
              have hz : Dq B3 z xd := S3.top rfl
              refine ⟨v, g0, ?_⟩
              have dq : Dq B3 (v.getD z) (ov.getD xd) := by
                cases ov with
                | none =>
                  have vo : v = none := vo
                  rw [vo]; exact hz
                | some x0 =>
                  obtain ⟨v0, e0, d0⟩ := vo
                  rw [e0]; exact d0
              exact q _ H3 (.d (ov.getD xd)) g3 B3 al3 h3 ((S3.temps fun t ht => by simp [ht]).push dq)
          | _ => simp only [getKK, hd3] at h3; exact h3.elim
        | _ => simp only [getKK, hd3] at h3; exact h3.elim
    · rw [if_neg hd] at h1
      exact h1.elim
end
end DL
set_option Elab.async false
set_option linter.all false
set_option maxRecDepth 100000
set_option maxHeartbeats 4000000
set_option autoImplicit false
namespace DL
open PySem PySem.Spec PyProof.Rows L2 PySem.W L2.DX
theorem pairs_at {P : Program} {w : World} : ∀ {es : List DictEntry} {kvs : List (L2.Key × Value)}, Pairs (mixKind P w) es kvs → ∀ {j : Nat} {e : DictEntry}, es[j]? = some e → ∃ kv, kvs[j]? = some kv ∧ keyIs kv.1 e.key = true ∧ e.val = kv.2 := by
  intro es kvs h
  induction h with
  | nil => intro j e h; simp at h
  | @cons e0 kv es kvs h1 h2 h3 ih =>
    intro j e he
    cases j with
    | zero =>
      simp only [List.getElem?_cons_zero, Option.some.injEq] at he
      subst he
      exact ⟨kv, rfl, h1, h2⟩
    | succ j =>
      simp only [List.getElem?_cons_succ] at he ⊢
      exact ih he
theorem kv_back {κ : Type} {kvs : List (κ × V)} {vs : List (κ × Value)} (h : KV kvs vs) : ∀ {i : Nat} {k : κ} {u : Value}, vs[i]? = some (k, u) → ∃ v, kvs[i]? = some (k, v) ∧ RelV v u := by
  unfold KV at h
  induction h with
  | nil => intro i k v e; simp at e
  | @cons a b l₁ l₂ r t ih =>
    intro i k v e
    cases i with
    | zero =>
      simp only [List.getElem?_cons_zero, Option.some.injEq] at e
      subst e
      refine ⟨a.2, ?_, r.2⟩
      simp only [List.getElem?_cons_zero]
      exact congrArg some (Prod.ext r.1 rfl)
    | succ j =>
      simp only [List.getElem?_cons_succ] at e ⊢
      exact ih e
def intKV (ps : List (Int × Int)) : List (L2.Key × V) := ps.map fun q => (Sum.inl q.1, V.int q.2)
def rSortItF : List V → Hp → VK → Prop := fun vs H Q => ∃ (p d : Addr) (o : Obj) (ps : List (Int × Int)), vs = [.ref p] ∧ H p = some (itemsO p d) ∧ H d = some (.frz o (.dK (intKV ps))) ∧
  ∀ (H' : Hp) (l : Addr) (zs : List (Addr × (Int × Int))), (∀ b o, H b = some o → H' b = some o) → H l = none → SrtO.Srtd SrtO.lexB (zs.map (·.2)) → (zs.map (·.2)).Perm ps → H' l = some (.lst (zs.map fun z => V.ref z.1)) →
    (∀ z ∈ zs, H' z.1 = some (.tup [.int z.2.1, .int z.2.2])) → Q (.ref l) H'
section
variable {X : Cx}
theorem cr_sortItF (hc : X.calm = true) : CallR X (.builtin "sorted") rSortItF := by
  intro pins s σ H xs us Q I r h
  obtain ⟨p, d, o, ps, rfl, hp, hd, q⟩ := h
  obtain rfl := Vals.ref1 r
  have view : s.heap.IsItemsView p d := (show ObjOk X.prog X.w H s.heap p (itemsO p d) from I.hok p _ hp).1
  have hz : (intKV ps).length ≤ sizeLine := ((I.hok d _ hd).2).1
  obtain ⟨hs, hgd, hx, es, ep, vs', hdt, hsz, kv, o2, es2, hg2, hx2, hd2, hko, hpr, hnd⟩ := I.frzK hd
  rw [hgd] at hg2
  cases hg2
  rw [hdt] at hd2
  cases hd2
  have lps : (intKV ps).length = ps.length := by unfold intKV; rw [List.length_map]
  have hh : X.A.handled = none := I.ok.hd hc
  refine DT.sortedI (es := es) (ep := ep) hh view ⟨o, hgd, hx, hdt⟩ (by omega) fun h' tk as hk hlt hl hG => ?_
  have lak : as.length = ps.length := by omega
  have nd : as.Nodup := List.Pairwise.imp (fun h => Nat.ne_of_lt h) hG.rise
  have pr : ∀ (j : Nat) (b : Addr), as[j]? = some b → ∃ (e : Int × Int) (t1 t2 : Tok), ps[j]? = some e ∧ h'.get? b = some { cls := .type "tuple", data := .seq #[Value.int e.1 t1, Value.int e.2 t2] } := by
    intro j b hj
    obtain ⟨en, he, hg⟩ := hG.pairs j b hj
    rw [← Array.getElem?_toList] at he
    obtain ⟨kv0, hkv, hkey, hval⟩ := pairs_at hpr he
    obtain ⟨v0, hu, rv⟩ := kv_back kv (i := j) (k := kv0.1) (u := kv0.2) hkv
    unfold intKV at hu
    rw [List.getElem?_map] at hu
    obtain ⟨e, hpe, eq⟩ := Option.map_eq_some_iff.mp hu
    have e1 : kv0.1 = Sum.inl e.1 := (Prod.mk.inj eq).1.symm
    have e2 : v0 = V.int e.2 := (Prod.mk.inj eq).2.symm
    subst e2
    obtain ⟨t2, rv⟩ := rv
    have rk : RelV (kV kv0.1) en.key := relV_key hkey
    rw [e1] at rk
    obtain ⟨t1, rk⟩ := rk
    exact ⟨e, t1, t2, hpe, by rw [hg, rk, hval, rv]⟩
  have hob : (h'.push { cls := .type "list", data := .seq (as.map Value.ref).toArray }).get? h'.objs.size = some (seqObj "list" (as.map Value.ref).toArray 0) := Heap.get?_push_size _ rfl
  have kb : ∀ b o, s.heap.get? b = some o → (h'.push { cls := .type "list", data := .seq (as.map Value.ref).toArray }).get? b = some o := fun b o e => Heap.get?_push_of_some _ (hk b o e)
  have ne0 : ∀ b o, h'.get? b = some o → b ≠ h'.objs.size := fun b o e => Nat.ne_of_lt (Heap.lt_size e)
  generalize hh2 : h'.push { cls := .type "list", data := .seq (as.map Value.ref).toArray } = h2 at hob kb ⊢
  have ka : ∀ b o, h'.get? b = some o → h2.get? b = some o := fun b o e => by rw [← hh2]; exact Heap.get?_push_of_some _ e
  -- the key of a pair
  obtain ⟨kf, ekf⟩ : ∃ kf : Value → Int × Int, ∀ (j : Nat) (b : Addr), as[j]? = some b → ps[j]? = some (kf (.ref b)) := by
    refine ⟨fun v => match v with
      | .ref b => ps.getD (as.idxOf b) (0, 0)
      | _ => (0, 0), fun j b hj => ?_⟩
    have hm := List.mem_of_getElem? hj
    have il := List.idxOf_lt_length_of_mem hm
    have ei : as[as.idxOf b]? = some b := by rw [List.getElem?_eq_getElem il, List.getElem_idxOf il]
    have ej : as.idxOf b = j := (List.getElem?_inj il nd).mp (ei.trans hj.symm)
    show ps[j]? = some (ps.getD (as.idxOf b) (0, 0))
    rw [ej, List.getD_eq_getElem?_getD]
    have hjl : j < ps.length := by rw [← lak]; exact (List.getElem?_eq_some_iff.mp hj).1
    rw [List.getElem?_eq_getElem hjl]
    rfl
  have isp : ∀ v ∈ as.map Value.ref, Srt.IsPair h2 v (kf v).1 (kf v).2 := by
    intro v hv
    obtain ⟨b, hb, rfl⟩ := List.mem_map.mp hv
    obtain ⟨j, hj⟩ := List.mem_iff_getElem?.mp hb
    obtain ⟨e, t1, t2, hpe, hg⟩ := pr j b hj
    have := ekf j b hj
    rw [hpe] at this
    cases this
    exact ⟨b, _, t1, t2, 0, rfl, ka _ _ hg, rfl, rfl⟩
  refine wpAny_call_entry PyProof.Rows.slot_list_sort ⟨_, hob, rfl⟩ PyProof.Rows.entry_list_sort
    (SrtO.list_sort_ord (s := { s with heap := h2, toks := tk }) (ltv := fun v u => SrtO.lexB (kf v) (kf u)) (SrtO.swo_lex kf) hob (by rw [List.length_map, lak]; omega) (fun h2' => SrtO.pairs_sortableO (s := { s with heap := h2, toks := tk }) (by omega) isp fun o e => ?_) fun out hsd hsb => ⟨.none, rfl, ?_⟩) (PyProof.Rows.args_list_sort _)
  · have e' : some o = some (seqObj "list" (as.map Value.ref).toArray 0) := e.symm.trans hob
    cases e'
    intro c
    exact absurd (Value.type.inj c) (by decide)
  · show EP X pins σ Q (.ref h'.objs.size) { s with heap := sortedHeap h2 h'.objs.size (as.map Value.ref) out.toArray, toks := tk }
    have allr : ∀ v ∈ out, ∃ b, v = Value.ref b ∧ b ∈ as := fun v hv => by
      obtain ⟨b, hb, rfl⟩ := List.mem_map.mp (hsb.perm.mem_iff.mp hv)
      exact ⟨b, rfl, hb⟩
    obtain ⟨zs, ez1, ez2, ez3⟩ : ∃ zs : List (Addr × (Int × Int)), out = zs.map (fun z => Value.ref z.1) ∧ zs.map (·.2) = out.map kf ∧ ∀ z ∈ zs, z.1 ∈ as ∧ z.2 = kf (.ref z.1) := by
      clear hsd hsb
      induction out with
      | nil => exact ⟨[], rfl, rfl, fun _ h => nomatch h⟩
      | cons v out ih =>
        obtain ⟨b, rfl, hb⟩ := allr v List.mem_cons_self
        obtain ⟨zs, a1, a2, a3⟩ := ih fun u hu => allr u (List.mem_cons_of_mem _ hu)
        refine ⟨(b, kf (.ref b)) :: zs, by rw [List.map_cons, ← a1], by rw [List.map_cons, List.map_cons, a2], fun z hz => ?_⟩
        rcases List.mem_cons.mp hz with rfl | hz
        · exact ⟨hb, rfl⟩
        · exact a3 z hz
    have hperm : (zs.map (·.2)).Perm ps := by
      rw [ez2]
      have e1 := hsb.perm.map kf
      have e2 : (as.map Value.ref).map kf = ps := by
        rw [List.map_map]
        refine List.ext_getElem? fun j => ?_
        rw [List.getElem?_map]
        cases hj : as[j]? with
        | none =>
          rw [List.getElem?_eq_none_iff] at hj
          symm
          rw [Option.map_none, List.getElem?_eq_none_iff]
          omega
        | some b => rw [ekf j b hj]; rfl
      rw [e2] at e1
      exact e1
    have hsort : SrtO.Srtd SrtO.lexB (zs.map (·.2)) := by
      rw [ez2]
      exact List.pairwise_map.mpr hsd
    have kF : ∀ b o, b ≠ h'.objs.size → h2.get? b = some o → (sortedHeap h2 h'.objs.size (as.map Value.ref) out.toArray).get? b = some o := fun b o hb e => (PyProof.Rows.sortedHeap_old hb (Heap.lt_size e)).trans e
    have kS : ∀ b o, s.heap.get? b = some o → (sortedHeap h2 h'.objs.size (as.map Value.ref) out.toArray).get? b = some o := fun b o e => kF b o (ne0 _ _ (hk b o e)) (kb b o e)
    obtain ⟨eF, heF⟩ := PyProof.Rows.sortedHeap_at (vs := as.map Value.ref) (out := out.toArray) hob
    have I1 : Inv X pins σ H { s with heap := sortedHeap h2 h'.objs.size (as.map Value.ref) out.toArray, toks := tk } := I.kept (t' := tk) kS
    have hn0 : H h'.objs.size = none := I.hok.fresh (Nat.le_of_lt hlt)
    have hlen : (zs.map fun z => V.ref z.1).length ≤ sizeLine := by
      have e := hperm.length_eq
      rw [List.length_map] at e
      rw [List.length_map]
      omega
    have rv : Vals (zs.map fun z => V.ref z.1) out := by
      rw [ez1]
      exact vals_maps (fun z : Addr × (Int × Int) => V.ref z.1) (fun z => Value.ref z.1) zs fun _ _ => rfl
    have I2 : Inv X pins σ (upd H h'.objs.size (.lst (zs.map fun z => V.ref z.1))) { s with heap := sortedHeap h2 h'.objs.size (as.map Value.ref) out.toArray, toks := tk } :=
      I1.take (h' := sortedHeap h2 h'.objs.size (as.map Value.ref) out.toArray) (t' := tk) (fun b ob _ e => e) (I.fpOk (Nat.le_of_lt hlt) hn0) ⟨hlen, out, eF, rv, by simpa using heF⟩
    obtain ⟨H2, I3, g, qt⟩ := takeT (P := fun b vs => ∃ (j : Nat) (e : Int × Int), as[j]? = some b ∧ ps[j]? = some e ∧ vs = [.int e.1, .int e.2]) I as _ I2 nd fun b hb => by
      obtain ⟨j, hj⟩ := List.mem_iff_getElem?.mp hb
      obtain ⟨e, t1, t2, he, hg⟩ := pr j b hj
      have hbl : s.heap.objs.size ≤ b := Nat.le_of_lt (hG.above b hb)
      refine ⟨hbl, ?_, [.int e.1, .int e.2], ⟨j, e, hj, he, rfl⟩, fun H3 => ⟨(by rw [sizeLine_eq]; show 2 ≤ 16777216; omega), [Value.int e.1 t1, Value.int e.2 t2], .cons ⟨t1, rfl⟩ (.cons ⟨t2, rfl⟩ .nil), ⟨_, kF _ _ (ne0 _ _ hg) (ka _ _ hg), rfl, 0, rfl⟩⟩⟩
      rw [upd_ne (ne0 _ _ hg)]
      exact I.hok.fresh hbl
    have gr : ∀ b o, H b = some o → H2 b = some o := fun b o e => g b o (by rw [upd_ne (ne_of_none e hn0)]; exact e)
    refine ⟨.ref h'.objs.size, H2, I3, rfl, q H2 h'.objs.size zs gr hn0 hsort hperm (g _ _ upd_same) fun z' hz' => ?_⟩
    obtain ⟨hza, hzk⟩ := ez3 z' hz'
    obtain ⟨vs, ⟨j, e, j1, j2, ev⟩, hH⟩ := qt z'.1 hza
    have := ekf j z'.1 j1
    rw [j2] at this
    cases this
    rw [hH, ev, hzk]
end
def tItemsF (td : TE) : TE := fun σ H Q => td σ H fun x H1 => ∃ d o ps, x = .ref d ∧ H1 d = some (.frz o (.dK (intKV ps))) ∧ ∀ p, H1 p = none → Q (.ref p) (upd H1 p (itemsO p d))
theorem pe_itemsF {X : Cx} {e : Expr} {td : TE} {apos cpos : Pos} (he : PE X e td) (hbase : attributeBase e "items" X.env (eval e X.env) = eval e X.env := by rfl) (hline : (apos.endLine == cpos.line) = true := by rfl) :
    PE X (.Call (.Attribute e "items" apos) [] [] cpos) (tItemsF td) := by
  refine ⟨fun pins s σ H Q I h => ?_⟩
  refine wpAny_Call_method (T := "dict") (id := "dict.items") hbase rfl hline F.plainAttrs_dict F.slot_dict_items F.type_dict_items (thn (he.run pins s σ H _ I h) fun u s1 ⟨x, H1, I1, rx, d, o, ps, ex, hd, q⟩ => ?_)
  subst ex
  obtain rfl : u = Value.ref d := rx
  obtain ⟨hs, hgd, hx, es, ep, vs', hdt, hsz, kv, hm⟩ := I1.frzK hd
  have raw : DT.Raw s1.heap d es ep := ⟨o, hgd, hx, hdt⟩
  refine ⟨raw.typeIs, fun b q => by cases q; exact ⟨o, hgd, hx.2.1⟩, ?_⟩
  have hf : H1 s1.heap.objs.size = none := I1.hok.fresh (Nat.le_refl _)
  have fin : EP X pins σ Q (.ref s1.heap.objs.size) { s1 with heap := s1.heap.push { cls := .type "dict_items", data := .fields #[.ref d] } } :=
    ⟨.ref s1.heap.objs.size, upd H1 s1.heap.objs.size (itemsO s1.heap.objs.size d), I1.laid (t' := s1.toks) (fun b u e => Heap.get?_push_of_some _ e) (Nat.le_refl _) (itemsO_ok (Heap.get?_push_size _ rfl)), rfl, q _ hf⟩
  show wpAny _ _ (callWith cpos (.builtin "dict.items") [.ref d] [] []) _ X.xe s1
  exact method_meetsIn F.slot_dict_items F.entry_dict_items rfl (PySem.evalArgs_none ⟨rfl, raw.typeIs, F.args_dict_items_1 _, _, DT.meetsItems hs, ⟨raw, fin⟩⟩)
def asIntKV : List (L2.Key × PyData) → Option (List (Int × Int))
  | [] => some []
  | (.inl i, .int j) :: r => (asIntKV r).map ((i, j) :: ·)
  | _ => none
theorem asIntKV_of : ∀ ps : List (Int × Int), asIntKV (ps.map fun q => (Sum.inl q.1, PyData.int q.2)) = some ps
  | [] => rfl
  | p :: r => by
    show (asIntKV (r.map fun q => (Sum.inl q.1, PyData.int q.2))).map ((p.1, p.2) :: ·) = _
    rw [asIntKV_of r]
    rfl
theorem asIntKV_eq : ∀ {kvs : List (L2.Key × PyData)} {ps : List (Int × Int)}, asIntKV kvs = some ps → kvs = ps.map fun q => (Sum.inl q.1, PyData.int q.2)
  | [], ps, h => by cases h; rfl
  | q :: r, ps, h => by
    unfold asIntKV at h
    split at h
    · rename_i e; cases e
    · rename_i i j r' e
      cases e
      cases hr : asIntKV r with
      | none => rw [hr] at h; cases h
      | some qs =>
        rw [hr] at h
        cases h
        rw [asIntKV_eq hr]
        rfl
    · cases h
theorem intKV_back {B : Hp} : ∀ {ps : List (Int × Int)} {us : List (L2.Key × V)}, Paired (fun (p : L2.Key × V) (q : L2.Key × PyData) => p.1 = q.1 ∧ Dq B p.2 q.2) us (ps.map fun q => (Sum.inl q.1, PyData.int q.2)) → us = intKV ps
  | [], us, no => by cases no; rfl
  | q :: ps, us, no => by
    cases no with
    | cons h t =>
      rename_i u us'
      rw [intKV_back t]
      obtain ⟨u1, u2⟩ := u
      obtain ⟨h1, h2⟩ := h
      have h1 : u1 = Sum.inl q.1 := h1
      have h2 : Dq B u2 (.int q.2) := h2
      subst h1
      cases h2
      rfl
def fSortIt (f : FE) : FE := fun g => (f g).bind fun r g1 => match r with
  | .m (.dF kvs) => match asIntKV kvs with
    | some ps => .ok (.d (.list (psD (srtP ps)))) g1
    | none => .no
  | _ => .no
theorem fSortIt_ap (f : FE) (g : G) : fSortIt f g = (f g).bind fun r g1 => match r with
  | .m (.dF kvs) => match asIntKV kvs with
    | some ps => .ok (.d (.list (psD (srtP ps)))) g1
    | none => .no
  | _ => .no := id rfl
section
variable {K : KR} {F : Fm} {g : G} {tm : List (V × R)} {s : L2.St} {H H' B : Hp} {al : List Addr}
theorem Stt.heapUp (S : Stt K F g tm s H B al) (e : Same H H') : Stt K F g tm s H' B al :=
  { S with bh := S.bh.trans e, fo := fun a o q => let ⟨h1, h2, h3⟩ := S.fo a o q; ⟨e _ _ h1, h2, h3⟩, lv := fun a ha => let ⟨o, ho⟩ := S.lv a ha; ⟨o, e _ _ ho⟩, ce := fun j a ct h1 h2 => ct_mono0 (Same.refl _) (fun o q => e _ _ q) (S.ce j a ct h1 h2) }
theorem Stt.adoptPs (S : Stt K F g tm s H B al) : ∀ {zs : List (Addr × (Int × Int))}, (∀ z ∈ zs, H z.1 = some (.tup [.int z.2.1, .int z.2.2])) → ∃ B', Same B B' ∧ Stt K F g tm s H B' al ∧ DqAll B' (zs.map fun z => V.ref z.1) (psD (zs.map (·.2)))
  | [], _ => ⟨B, Same.refl _, S, .nil⟩
  | z :: zs, h => by
    obtain ⟨B1, e1, S1, d1⟩ := S.adoptPs (zs := zs) fun b hb => h b (List.mem_cons_of_mem _ hb)
    obtain ⟨B2, e2, hb, S2⟩ := S1.adoptT (h z List.mem_cons_self)
    exact ⟨B2, e1.trans e2, S2, .cons (Dq.tup hb (.cons (.int _) (.cons (.int _) .nil))) (dqall_mono e2 d1)⟩
end
section
variable {ρ : Root} {X : Cx} {dx : DX} {e : Expr} {f : FE} {p pos apos cpos : Pos}
theorem q_sortIt (hcalm : X.calm = true) (hg : Gl X "sorted") (hm : X.mg "sorted" = none) (he : PF ρ X dx e f) (hbase : attributeBase e "items" X.env (eval e X.env) = eval e X.env := by rfl) (hline : (apos.endLine == cpos.line) = true := by rfl)
    (hs : starEach [.Call (.Attribute e "items" apos) [] [] cpos] X.env = (false, eval (.Call (.Attribute e "items" apos) [] [] cpos) X.env) :: starEach [] X.env := by rfl) (hpl : (backTo pos (starEach ([] : List Expr) X.env)).any (·.1) = false := by rfl) :
    PF ρ X dx (.Call (.Name "sorted" p) [.Call (.Attribute e "items" apos) [] [] cpos] [] pos) (fSortIt f) :=
  pe_imp (pe_callB (cr_sortItF hcalm) hg hm (by decide +kernel) (pa_cons (pe_itemsF he hbase hline) pa_nil hs) (he := hs) (hpl := hpl)) fun s H Q ⟨F, g, tm, k, B, al, S, hk, q⟩ => by
    refine ⟨F, g, tm, _, B, al, S, go_bind.mp hk, fun x H1 r g1 B1 al1 h1 S1 => ?_⟩
    split at h1
    · rename_i kvs
      split at h1
      · rename_i ps hps
        obtain ⟨a, rfl, _, o, us, h2, no⟩ : RvOk ⟨X.K, ρ⟩ B1 al1 x (.m (.dF kvs)) := S1.top rfl
        have ek := asIntKV_eq hps
        have eu : us = intKV ps := by
          subst ek
          exact intKV_back no
        subst eu
        refine ⟨a, o, ps, rfl, S1.bh _ _ h2, fun p hp => ?_⟩
        have hda : H1 a = some (.frz o (.dK (intKV ps))) := S1.bh _ _ h2
        refine ⟨p, a, o, ps, rfl, upd_same, by rw [upd_ne (ne_of_none hda hp)]; exact hda, fun H' l zs e1 hl hsd hpm hlst htup => ?_⟩
        have eH : Same H1 H' := fun b u e => e1 b u (by rw [upd_ne (ne_of_none e hp)]; exact e)
        have hl1 : H1 l = none := by
          cases z : H1 l with
          | none => rfl
          | some u => rw [upd_ne (ne_of_none z hp)] at hl; rw [z] at hl; cases hl
        have S2 := S1.heapUp eH
        obtain ⟨B2, e2, S3, dq⟩ := S2.adoptPs htup
        have bl : B2 l = none ∨ ∃ xs, B2 l = some (.lst xs) ∧ xs = zs.map fun z => V.ref z.1 := by
          cases z : B2 l with
          | none => exact .inl rfl
          | some u =>
            have := S3.bh _ _ z
            rw [hlst] at this
            cases this
            exact .inr ⟨_, rfl, rfl⟩
        have es : srtP ps = zs.map (·.2) := srtP_eq hpm (hsd.imp fun {x y} h => by
          have h' := SrtO.lexB_no.mp h
          rw [leP_iff]
          omega)
        rw [es] at h1
        rcases bl with bl | ⟨xs, bl, rfl⟩
        · have nal : l ∉ al1 := S1.new_out hl1
          have nfo : F.O l = none := by
            cases z : F.O l with
            | none => rfl
            | some u => have := (S1.fo l u z).1; rw [hl1] at this; cases this
          have S4 := S3.adopt hlst bl nal nfo
          exact q _ _ _ _ _ _ h1 ((S4.temps fun t ht => List.mem_cons_of_mem _ ht).push (Dq.lst upd_same (dqall_mono (same_new bl) dq)))
        · exact q _ _ _ _ _ _ h1 ((S3.temps fun t ht => List.mem_cons_of_mem _ ht).push (Dq.lst bl dq))
      · exact h1.elim
    · exact h1.elim
end
end DL
set_option Elab.async false
set_option linter.all false
set_option maxRecDepth 100000
set_option maxHeartbeats 4000000
set_option autoImplicit false
namespace DL
open PySem PySem.Spec PyProof.Rows L2 PySem.W
section
variable {prog : Program} {w : World} {A : Around} {E : Value → Shared → Prop} {s : Shared} {a : Addr}
theorem call_valuesR {Q : Value → Shared → Prop} (hm : s.TypeIs (.ref a) "dict") (hsm : (a == sysModules) = false) (h : Q (.ref s.heap.objs.size) { s with heap := s.heap.push { cls := .type "dict_values", data := .fields #[.ref a] } }) :
    wpAny (model prog w) A (call (.builtin "dict.values") [.ref a]) Q E s := by
  refine wpAny_call_entry PySem.F.slot_dict_values hm PySem.F.entry_dict_values ?_ (PySem.F.args_dict_values_1 _)
  refine wpAny_bind ?_
  unfold Builtin.Dict.noArgs
  refine wpAny_bind (wpAny_notOrdered_dict hm ?_)
  show wpAny _ _ (pure a) _ _ s
  refine wpAny_pure ?_
  show wpAny _ _ (Builtin.Dict.showsAll a >>= _) _ _ s
  unfold Builtin.Dict.showsAll
  rw [if_neg (by rw [hsm]; exact Bool.false_ne_true)]
  refine wpAny_bind (wpAny_pure ?_)
  exact wpAny_bind (wpAny_newObj_type (wpAny_pure ⟨_, rfl, h⟩))
/-- sorted(d.values()) up to the sort of the list -/
theorem sortedVals {r d : Addr} {es : Array DictEntry} {ep : Nat} {Q : Value → Shared → Prop} (hh : A.handled = none) (hv : s.heap.IsValuesView r d) (hm : s.heap.DictRaw d es ep) (hn : es.size ≤ sizeLine)
    (h : ∀ (h' : Heap) (tk : Nat) (acc : List Value), (∀ b o, s.heap.get? b = some o → h'.get? b = some o) → acc.length = es.size → (∀ (j : Nat) (v : Value), acc[j]? = some v → ∃ hj : j < es.size, v = es[j].val) →
      wpAny (model prog w) A.in1 (call (.builtin "list.sort") [.ref h'.objs.size]) (fun _ s' => Q (.ref h'.objs.size) s') E { s with heap := h'.push { cls := .type "list", data := .seq acc.toArray }, toks := tk }) :
    wpAny (model prog w) A (call (.builtin "sorted") [.ref r]) Q E s := by
  refine Calls.call_function_entry kind_sorted plain_sorted entry_sorted (args_sorted1 _) ?_
  unfold Builtin.«sorted»
  refine wpAny_bind (m := checkCount "sorted" 1 1 _) (wpAny_pure ?_)
  refine wpAny_bind (kdu_collect (A := A.in1) (KdlSrc.rawValues (prog := prog) (w := w) (r := r) (d := d) (es := es) (ep := ep)) hh ⟨hv, hm⟩ hn fun h' tk acc hk hacc => ?_)
  have hl : acc.toList.length = es.size := by rw [Array.length_toList]; exact hacc.1
  refine wpAny_bind (wpAny_newList ?_ (by rw [hl]; exact hn))
  have hg := h h' tk acc.toList hk hl fun j v e => hacc.2 j v (by rw [← Array.getElem?_toList]; exact e)
  refine wpAny_bind (wpAny_holding (wpAny_mono hg (fun _ s' x => ?_) fun _ _ e => e))
  exact wpAny_pure ⟨_, rfl, x⟩
end
theorem vals_pt : ∀ (xs : List V) (ys : List Value), xs.length = ys.length → (∀ (j : Nat) (x : V) (y : Value), xs[j]? = some x → ys[j]? = some y → RelV x y) → Vals xs ys
  | [], [], _, _ => .nil
  | [], _ :: _, h, _ => by cases h
  | _ :: _, [], h, _ => by cases h
  | x :: xs, y :: ys, h, hr => .cons (hr 0 x y rfl rfl) (vals_pt xs ys (by simpa using h) fun j a b ha hb => hr (j + 1) a b (by simpa using ha) (by simpa using hb))
def tSortV (td : TE) : TE := fun σ H Q => td σ H fun x H1 => ∃ (d : Addr) (o : Obj) (us : List (NestedKey × Addr × V)) (ns : List Int), x = .ref d ∧ H1 d = some (.frz o (dnO d us)) ∧ us.map (fun u => u.2.2) = ns.map V.int ∧
  ∀ (ns' : List Int) (l : Addr), ns'.Perm ns → ns'.Pairwise (· ≤ ·) → H1 l = none → Q (.ref l) (upd H1 l (.lst (ns'.map V.int)))
section
variable {X : Cx} {tg e : Expr} {td : TE} {p apos cpos pos : Pos}
theorem pe_sortV (hc : X.calm = true) (hg : Gl X "sorted") (hm : X.mg "sorted" = none) (he : PE X e td) (hbase : attributeBase e "values" X.env (eval e X.env) = eval e X.env := by rfl) (hline : (apos.endLine == cpos.line) = true := by rfl) :
    PE X (.Call (.Name "sorted" p) [.Call (.Attribute e "values" apos) [] [] cpos] [] pos) (tSortV td) := by
  refine ⟨fun pins s0 σ H Q I0 h => ?_⟩
  refine Call_ (ld_blt (u := .builtin "sorted") I0 hg hm (by decide +kernel) ?_)
  refine PyProof.Rows.callWith_builtin1 (PyProof.Rows.args_cons ?_ rfl) rfl rfl
  refine wpAny_Call_method (T := "dict") (id := "dict.values") hbase rfl hline PySem.F.plainAttrs_dict PySem.F.slot_dict_values PySem.F.type_dict_values (thn (he.run pins s0 σ H _ I0 h) fun u s ⟨x, H1, I, rx, d, o, us, ns, ex, hd, hns, q⟩ => ?_)
  subst ex
  obtain rfl : u = Value.ref d := rx
  obtain ⟨hs, hgd, hx, hz, es, ep, hdt, hsz, ent⟩ := frzN I hd
  have raw : s.heap.DictRaw d es ep := ⟨o, hgd, hx, hdt⟩
  refine ⟨raw.typeIs, fun b q => by cases q; exact ⟨o, hgd, hx.2.1⟩, ?_⟩
  refine callWith_method0 (first := [.ref d]) (call_valuesR raw.typeIs hs ?_)
  refine PyProof.Rows.args_nil ?_
  have I2 : Inv X pins σ H1 { s with heap := s.heap.push { cls := .type "dict_values", data := .fields #[.ref d] } } := I.kept (t' := s.toks) fun b ob q => Heap.get?_push_of_some _ q
  have raw2 : (s.heap.push { cls := .type "dict_values", data := .fields #[.ref d] }).DictRaw d es ep := raw.at fun o e => Heap.get?_push_of_some _ e
  have hv : (s.heap.push { cls := .type "dict_values", data := .fields #[.ref d] }).get? s.heap.objs.size = some { cls := .type "dict_values", data := .fields #[.ref d] } := Heap.get?_push_size _ rfl
  obtain ⟨s2, es2⟩ : ∃ s2 : Shared, { s with heap := s.heap.push { cls := .type "dict_values", data := .fields #[.ref d] } } = s2 := ⟨_, rfl⟩
  have hv : s2.heap.get? s.heap.objs.size = some { cls := .type "dict_values", data := .fields #[.ref d] } := by rw [← es2]; exact hv
  have raw2 : s2.heap.DictRaw d es ep := by rw [← es2]; exact raw2
  rw [es2] at I2
  rw [es2]
  refine sortedVals (show X.A.in1.handled = none from I2.ok.hd hc) ⟨_, hv, rfl, rfl⟩ raw2 (by omega) fun h' tk acc hk hl hacc => ?_
  have rv : Vals (ns.map V.int) acc := by
    rw [← hns]
    refine vals_pt _ _ (by rw [List.length_map]; omega) fun j a b ha hb => ?_
    rw [List.getElem?_map] at ha
    obtain ⟨u, hu, rfl⟩ := Option.map_eq_some_iff.mp ha
    obtain ⟨hj, e1⟩ := hacc j b hb
    obtain ⟨en, hen, _, r⟩ := ent j u hu
    rw [Array.getElem?_eq_getElem hj] at hen
    rw [e1, Option.some.inj hen]
    exact r
  have hi := rv.ints
  have hnl : ns.length = es.size := by
    have := rv.length
    rw [List.length_map] at this
    omega
  have I3 : Inv X pins σ H1 { s2 with heap := h', toks := tk } := I2.kept (t' := tk) hk
  have hob : (h'.push { cls := .type "list", data := .seq acc.toArray }).get? h'.objs.size = some (seqObj "list" acc.toArray 0) := Heap.get?_push_size _ rfl
  refine wpAny_call_entry PyProof.Rows.slot_list_sort ⟨_, hob, rfl⟩ PyProof.Rows.entry_list_sort
    (SrtO.list_sort_ord (s := { s2 with heap := h'.push { cls := .type "list", data := .seq acc.toArray }, toks := tk }) SrtO.swo_int hob (by omega) (fun h2 => SrtO.ints_sortable (s := { s2 with heap := h'.push { cls := .type "list", data := .seq acc.toArray }, toks := tk }) hi h2) fun out h1 h2 => ⟨.none, rfl, ?_⟩) (PyProof.Rows.args_list_sort _)
  obtain ⟨k1, k2, k3⟩ := SrtO.ints_out hi h1 h2
  obtain ⟨eF, heF⟩ := PyProof.Rows.sortedHeap_at (vs := acc) (out := out.toArray) hob
  have hlen : ((out.map SrtO.iv).map V.int).length ≤ sizeLine := by
    rw [List.length_map, k2.length_eq]
    omega
  refine ⟨.ref h'.objs.size, upd H1 h'.objs.size (.lst ((out.map SrtO.iv).map V.int)), I3.laid (t' := tk) (fun b ob e => (PyProof.Rows.sortedHeap_old (Nat.ne_of_lt (Heap.lt_size e)) (Heap.lt_size (Heap.get?_push_of_some _ e))).trans (Heap.get?_push_of_some _ e)) (Nat.le_refl _) ⟨hlen, out, eF, vals_of_ints k1, heF⟩, rfl, q _ _ k2 k3 (I3.hok.fresh (Nat.le_refl _))⟩
end
def fSortVa (f : FE) : FE := fun g => (f g).bind fun r g1 => match r with
  | .m (.dL kvs) => match asInts (kvs.map (·.2)) with
    | some ns => .ok (.d (.list (zD (srt ns)))) g1
    | none => .no
  | _ => .no
theorem fSortVa_ap (f : FE) (g : G) : fSortVa f g = (f g).bind fun r g1 => match r with
  | .m (.dL kvs) => match asInts (kvs.map (·.2)) with
    | some ns => .ok (.d (.list (zD (srt ns)))) g1
    | none => .no
  | _ => .no := id rfl
theorem nok_ints {B : Hp} : ∀ {us : List (NestedKey × Addr × V)} {kvs : List (NestedKey × PyData)} {ns : List Int}, NOk B us kvs → kvs.map (·.2) = ns.map PyData.int → us.map (fun u => u.2.2) = ns.map V.int := fun {us kvs ns} no => by
  induction no generalizing ns with
  | nil =>
    intro h
    cases ns with
    | nil => rfl
    | cons n ns => cases h
  | @cons p q ps qs h t ih =>
    intro e
    cases ns with
    | nil => cases e
    | cons n ns =>
      rw [List.map_cons, List.map_cons, List.cons.injEq] at e
      rw [List.map_cons, List.map_cons, ih e.2]
      have h2 : Dq B p.2.2 q.2 := h.2.2
      have e1 : q.2 = .int n := e.1
      rw [e1] at h2
      revert h2
      generalize p.2.2 = z
      intro h2
      cases h2
      rfl
section
variable {ρ : Root} {X : Cx} {dx : DX} {tg e : Expr} {p pos apos cpos : Pos} {f : FE}
theorem q_sortVa (hc : X.calm = true) (hg : Gl X "sorted") (hm : X.mg "sorted" = none) (he : PF ρ X dx e f) (hbase : attributeBase e "values" X.env (eval e X.env) = eval e X.env := by rfl) (hline : (apos.endLine == cpos.line) = true := by rfl) :
    PF ρ X dx (.Call (.Name "sorted" p) [.Call (.Attribute e "values" apos) [] [] cpos] [] pos) (fSortVa f) :=
  pe_imp (pe_sortV hc hg hm he hbase hline) fun s H Q ⟨F, g, tm, k, B, al, S, hk, q⟩ => by
    refine ⟨F, g, tm, _, B, al, S, go_bind.mp hk, fun x H1 r g1 B1 al1 h1 S1 => ?_⟩
    split at h1
    · rename_i kvs
      split at h1
      · rename_i ns hns
        obtain ⟨a, rfl, _, o, us, h2, no⟩ : RvOk ⟨X.K, ρ⟩ B1 al1 x (.m (.dL kvs)) := S1.top rfl
        refine ⟨a, o, us, ns, rfl, S1.bh _ _ h2, nok_ints no (asInts_eq hns), fun ns' l pm sd hl => ?_⟩
        rw [← srt_eq pm sd] at h1
        exact new_l (S1.temps (tm' := tm) fun t ht => List.mem_cons_of_mem _ ht) hl (dqall_mkints _) h1 fun v H' r g' B' al' hk' S' hr => q v H' r g' B' al' hk' (S'.push hr)
      · exact h1.elim
    · exact h1.elim
end
section
variable {prog : Program} {w : World} {A : Around} {E : Value → Shared → Prop} {s : Shared}
theorem wpAny_len_bodyR {d : Addr} {es : Array DictEntry} {ep : Nat} {Q : Value → Shared → Prop} (hd : (d == sysModules) = false) (hm : s.heap.DictRaw d es ep) (hfit : (es.size : Int) < 2 ^ 63)
    (h : Q (.int es.size (s.toks + 1)) { s with toks := s.toks + 1 + 1 }) : wpAny (model prog w) A (Builtin.«len» ⟨[.ref d], []⟩) (fun fin s' => ∃ r, fin = .done (.ret r) ∧ Q r s') E s := by
  unfold Builtin.«len»
  refine wpAny_bind (m := oneArg "len" _) (wpAny_pure ?_)
  refine wpAny_bind (m := callSpecial? (.ref d) (Str.ofString "__len__")) (wpAny_callSpecial?_slot (name := Str.ofString "__len__") hm.typeIs F.slot_dict_len (call_len_raw hd hm ?_))
  show wpAny _ _ _ _ _ { s with toks := s.toks + 1 }
  refine wpAny_bind (wpAny_holding (wpAny_pure ?_))
  refine wpAny_bind (wpAny_letGo ?_)
  show wpAny _ _ (if ((es.size : Nat) : Int) < 0 then _ else _) _ _ _
  rw [if_neg (by omega)]
  show wpAny _ _ (if ((es.size : Nat) : Int) ≥ 2 ^ 63 then _ else _) _ _ _
  rw [if_neg (by omega)]
  exact wpAny_bind (wpAny_mkInt (wpAny_pure ⟨_, rfl, h⟩))
theorem call_lenR {d : Addr} {es : Array DictEntry} {ep : Nat} {Q : Value → Shared → Prop} (hd : (d == sysModules) = false) (hm : s.heap.DictRaw d es ep) (hfit : (es.size : Int) < 2 ^ 63)
    (h : Q (.int es.size (s.toks + 1)) { s with toks := s.toks + 1 + 1 }) : wpAny (model prog w) A (call (.builtin "len") [.ref d]) Q E s :=
  Calls.call_function_entry kind_len plain_len entry_len (args_len1 _) (wpAny_len_bodyR hd hm hfit h)
end
def rLenN : List V → Hp → VK → Prop := fun vs H Q => ∃ (d : Addr) (o : Obj) (us : List (NestedKey × Addr × V)), vs = [.ref d] ∧ H d = some (.frz o (dnO d us)) ∧ Q (.int ((us.length : Nat) : Int)) H
theorem cr_lenN {X : Cx} : CallR X (.builtin "len") rLenN := by
  intro pins s σ H xs us0 Q I r h
  obtain ⟨d, o, us, rfl, hd, q⟩ := h
  obtain rfl := Vals.ref1 r
  obtain ⟨hs, hgd, hx, hz, es, ep, hdt, hsz, ent⟩ := frzN I hd
  refine call_lenR hs ⟨o, hgd, hx, hdt⟩ (by rw [hsz]; rw [sizeLine_eq] at hz; omega) ?_
  rw [hsz]
  exact ⟨.int ((us.length : Nat) : Int), H, I.tok _, ⟨_, rfl⟩, q⟩
def clLenN : Cl := fun g rs => match rs with
  | [.m (.dL kvs)] => some (.d (.int (kvs.length : Nat)))
  | _ => none
theorem clLenN_ap (g : G) (kvs : List (NestedKey × PyData)) : clLenN g [.m (.dL kvs)] = some (.d (.int (kvs.length : Nat))) := id rfl
def cLenN : DCl := fun rs g k => ∃ kvs, rs = [.m (.dL kvs)] ∧ k (.d (.int (kvs.length : Nat))) g
theorem lenN_says : SaysC clLenN cLenN := fun rs g k r e hk => by
  unfold clLenN at e
  split at e
  · rename_i kvs
    cases e
    exact ⟨kvs, rfl, hk⟩
  · cases e
section
variable {ρ : Root} {X : Cx} {dx : DX} {e : Expr} {es : List Expr} {pos : Pos} {fs : FAr}
theorem q_lenN {p : Pos} (hg : Gl X "len") (hm : X.mg "len" = none) (ha : PFA ρ X dx (e :: es) fs) (he : starEach (e :: es) X.env = (false, eval e X.env) :: starEach es X.env := by rfl) (hpl : (backTo pos (starEach es X.env)).any (·.1) = false := by rfl) : PF ρ X dx (.Call (.Name "len" p) (e :: es) [] pos) (fCl clLenN fs) := by
  refine pd_mono (pd_callB (dr := cLenN) cr_lenN ?_ hg hm PySem.boot_len ha (he := he) (hpl := hpl)) (rd_cl lenN_says)
  rintro F g tm s H B al vs rs k Q S pr ⟨kvs, rfl, hk⟩ q
  obtain ⟨v, rfl, hv⟩ := pair1 pr
  obtain ⟨a, rfl, _, o, us, h1, no⟩ : RvOk ⟨X.K, ρ⟩ B al v (.m (.dL kvs)) := hv
  refine ⟨a, o, us, rfl, S.bh _ _ h1, ?_⟩
  rw [Paired.length no]
  exact q _ _ _ g B al hk S (.int _)
end
end DL
set_option Elab.async false
set_option linter.all false
set_option maxRecDepth 100000
set_option maxHeartbeats 4000000
set_option autoImplicit false
namespace DL
open PySem PySem.Spec PyProof.Rows L2 PySem.W
def dstI : List Int → List Int
  | [] => []
  | a :: l => if a ∈ l then dstI l else a :: dstI l
theorem dstI_mem (z : Int) : ∀ l : List Int, z ∈ dstI l ↔ z ∈ l
  | [] => Iff.rfl
  | a :: l => by
    unfold dstI
    split
    · rename_i h
      rw [dstI_mem z l, List.mem_cons]
      exact ⟨.inr, fun q => q.elim (fun e => e ▸ h) id⟩
    · rw [List.mem_cons, List.mem_cons, dstI_mem z l]
theorem dstI_nodup : ∀ l : List Int, (dstI l).Nodup
  | [] => List.nodup_nil
  | a :: l => by
    unfold dstI
    split
    · exact dstI_nodup l
    · rename_i h
      exact List.nodup_cons.mpr ⟨fun q => h ((dstI_mem a l).mp q), dstI_nodup l⟩
theorem dstI_perm {K ns : List Int} (nd : K.Nodup) (h : ∀ k, k ∈ K ↔ k ∈ ns) : K.Perm (dstI ns) :=
  (List.perm_ext_iff_of_nodup nd (dstI_nodup ns)).mpr fun k => (h k).trans (dstI_mem k ns).symm
section
variable {P : Program} {w : World} {A : Around} {E : Value → Shared → Prop}
theorem setR_count {h : Heap} {a : Addr} {ns : List Int} {n : Nat} (R : SetR w h a (fun j => decide (j ∈ ns)) n) : n = (dstI ns).length := by
  obtain ⟨o, es, ep, t, ho, hex, hd, g, nd, hm, hb, hf, hn, hr, hl⟩ := R
  have := (dstI_perm (ns := ns) nd fun k => (hm k).symm.trans decide_eq_true_iff).length_eq
  rw [List.length_map, Array.length_toList] at this
  omega
/-- set(xs), xs a list: what is seen from outside -/
theorem call_set_li {s : Shared} {l : Addr} {items : Array Value} {ns : List Int} {Q : Value → Shared → Prop} (hh : A.handled = none) (hl : s.heap.IsList l items) (hit : IntsAre items.toList ns) (hb : ns.length + 1 < scanBound)
    (h : ∀ (h' : Heap) (tk : Nat) (c : Nat), SetR w h' s.heap.objs.size (fun j => decide (j ∈ ns)) c → (∀ b o, s.heap.get? b = some o → h'.get? b = some o) → Q (.ref s.heap.objs.size) { s with heap := h', toks := tk }) :
    wpAny (model P w) A (call (.type "set") [.ref l]) Q E s := by
  have hlt : l < s.heap.objs.size := by
    obtain ⟨o, ho, _⟩ := hl
    exact Heap.lt_size ho
  have hlen : items.size = ns.length := by
    have q := IntsAre.length hit
    rw [Array.length_toList] at q
    exact q
  obtain ⟨c, tl, hmro⟩ := F.called_set.mro
  have hmade := F.called_set.made
  have hsub := F.called_set.sub
  refine wpAny_call (codeAny_of_tree ?_)
  show wpAny _ _ (callAny (.type "set") _) _ _ _
  refine wpAny_pure ⟨Code.quiet_builtin _ (by decide +kernel), codeAny_builtin F.entry_type_call ?_⟩
  rw [Around.under_plain (weight_type_call_type "set" [.ref l] []) rfl]
  have h1 := F.called_set.notType
  have h2 := F.called_set.canCreate
  have hct := F.typeCall_set_1 (.ref l)
  repeat (any_goals (first | assumption | wp_step))
  generalize hO : ({ cls := .type "set", dict := none, data := .set #[] 0 (.fresh 0 0 (!w.params.followText "set-order")) } : Obj) = O
  refine codeAny_mono (code_set_led1 (.ref l) (E := E) (Q₁ := fun obj s₁ => obj = .ref s.heap.objs.size ∧ s₁ = { s with heap := s.heap.push O }) ⟨rfl, by rw [← hO]⟩) fun r s₁ hr => ?_
  cases r with
  | error e => exact hr
  | ok fl =>
    cases fl with
    | ret obj =>
      obtain ⟨rfl, rfl⟩ := hr
      have gS : (s.heap.push O).get? s.heap.objs.size = some O := Heap.get?_push_size _ (by rw [← hO]; rfl)
      have hT : Shared.TypeIs { s with heap := s.heap.push O } (.ref s.heap.objs.size) "set" := ⟨_, gS, by rw [← hO]⟩
      have hli := F.called_set.init.lookup
      have hbi := F.called_set.init.bind (.ref s.heap.objs.size)
      repeat (any_goals (first | assumption | wp_step))
      refine codeAny_mono (codeAny_call_builtin (R := wants (fun r s₂ => r = .none ∧ ∃ h' tk c, s₂ = { s with heap := h', toks := tk } ∧ SetR w h' s.heap.objs.size (fun j => decide (j ∈ ns)) c ∧ ∀ b o, s.heap.get? b = some o → h'.get? b = some o) E) F.called_set.init.plain F.entry_set_init (check_set_init_1 hT ?_)) fun r₂ s₂ hr₂ => ?_
      · have hlI : (s.heap.push O).IsList l items := hl.push _
        have e1 := F.sub_list_set
        have e2 := F.sub_list_frozenset
        have e3 : (Value.type "list" == Value.type "dict") = false := by decide
        obtain ⟨ol, g0, c0, n0, d0⟩ := hl
        obtain ⟨oc, od, oda, os⟩ := ol
        obtain rfl : oc = .type "list" := c0
        obtain rfl : oda = .seq items n0 := d0
        have gl : (s.heap.push O).get? l = some { cls := .type "list", dict := od, data := .seq items n0, slots := os } := Heap.get?_push_of_some _ g0
        subst hO
        unfold Builtin.«set.__init__» noKeywords Builtin.Frozenset.updateFrom
        generalize hPI : pyIter = PI
        wp_walk
        subst hPI
        refine wpAny_pyIter_list hlI (wpAny_bind (wpAny_runValue ?_))
        have z1 : ∀ o : Obj, (s.heap.push o).objs.size = s.heap.objs.size + 1 := fun o => Heap.size_push ..
        have free : ∀ b, s.heap.objs.size ≤ b → s.heap.get? b = none := fun b hb => by
          cases q : s.heap.get? b with
          | none => rfl
          | some o => exact absurd (Nat.lt_of_lt_of_le (Heap.lt_size q) hb) (Nat.lt_irrefl _)
        have hh3 : A.in1.in1.in1.handled = none := by simp [hh]
        generalize hI : (s.heap.push { cls := .type "set", dict := none, data := .set #[] 0 (.fresh 0 0 (!w.params.followText "set-order")) }).objs.size = I
        have hI1 : I = s.heap.objs.size + 1 := by rw [← hI]; exact z1 _
        have n0 : l ≠ I := by rw [hI1]; exact Nat.ne_of_lt (Nat.lt_succ_of_lt hlt)
        have n1 : s.heap.objs.size ≠ I := by rw [hI1]; exact Nat.ne_of_lt (Nat.lt_succ_self _)
        have n2 : s.heap.objs.size ≠ l := Nat.ne_of_gt hlt
        have W := (Walks.list (prog := P) (w := w) hh3 I l n0 items).toS
        have st0 : ∀ o : Obj, o = { cls := .type "list_iterator", data := .fields #[.ref l, .int 0 0] } → ((s.heap.push { cls := .type "set", dict := none, data := .set #[] 0 (.fresh 0 0 (!w.params.followText "set-order")) }).push o).get? I = some o := fun o e => by
          rw [← hI, e]
          exact Heap.get?_push_size _ rfl
        have gS2 : ∀ o : Obj, ((s.heap.push { cls := .type "set", dict := none, data := .set #[] 0 (.fresh 0 0 (!w.params.followText "set-order")) }).push o).get? s.heap.objs.size = some { cls := .type "set", dict := none, data := .set #[] 0 (.fresh 0 0 (!w.params.followText "set-order")) } := fun o => Heap.get?_push_of_some _ gS
        have hval : ∀ (i : Nat) (v : Value), items[i]? = some v → ∃ k t, ns[i]? = some k ∧ v = .int k t := fun i v hv => by
          have hi : i < ns.length := by rw [← hlen]; exact (Array.getElem?_eq_some_iff.mp hv).1
          obtain ⟨t, e⟩ := PyProof.Rows.IntsAre.int_at hit i v (by rw [Array.getElem?_toList]; exact hv)
          refine ⟨ns[i], t, List.getElem?_eq_getElem hi, ?_⟩
          rw [e, List.getD_eq_getElem?_getD, List.getElem?_eq_getElem hi] <;> rfl
        refine set_update_ints W s.heap.objs.size (by simp only [List.mem_cons, List.not_mem_nil, or_false, not_or]; exact ⟨n1, n2⟩) ns hlen hb hval (items.size - 0) 0 _ (by omega) (Nat.zero_le _) ⟨⟨_, st0 _ rfl, rfl, rfl⟩, hlI.push _⟩ ⟨0, Nat.le_refl 0, setR_new_at (gS2 _)⟩ (fun s' c' mv _ J => ?_)
        · obtain ⟨h', g', d', tk', o'⟩ := s'
          obtain rfl : g' = s.gens := mv.gens
          obtain rfl : d' = s.drawn := mv.drawn
          obtain rfl : o' = s.os := mv.os
          show wpAny _ _ _ _ _ _
          refine wpAny_pure ?_
          show wpAny _ _ (ret Value.none) _ _ _
          refine wpAny_pure ⟨rfl, h', tk', c', rfl, J, fun b o e => mv.heap b o (fun hb => ?_) (Heap.get?_push_of_some _ (Heap.get?_push_of_some _ e))⟩
          have lt := Heap.lt_size e
          rcases List.mem_cons.mp hb with hb | hb
          · rw [hb] at lt; exact Nat.lt_irrefl _ lt
          · rw [List.mem_singleton.mp hb, hI1] at lt; exact absurd lt (Nat.not_lt_of_le (Nat.le_succ _))
      · cases r₂ with
        | error e => exact hr₂
        | ok fl₂ =>
          cases fl₂ with
          | ret r =>
            obtain ⟨rfl, h', tk, c', rfl, J, k⟩ := hr₂
            repeat (any_goals (first | assumption | wp_step))
            exact h h' tk c' J k
          | _ => exact hr₂.elim
    | _ => exact hr.elim
end
def tSortSetI (K : PySem.W.Frag) (ta : TE) : TE := fun σ H Q => ta σ H fun x H1 => ∃ (l : Addr) (ns : List Int), x = .ref l ∧ SqL K H1 l (ns.map V.int) ∧ ns.length ≤ 4000 ∧ (dstI ns).length < 64 ∧
  ∀ p, H1 p = none → Q (.ref p) (upd H1 p (.lst ((srt (dstI ns)).map V.int)))
theorem pe_sortSetI {X : Cx} {a : Expr} {ta : TE} {p p2 q pos : Pos} (hc : X.calm = true) (hg : Gl X "sorted") (hm : X.mg "sorted" = none) (hg2 : Gl X "set") (hm2 : X.mg "set" = none) (ha : PE X a ta)
    (na : starEach [a] X.env = (false, eval a X.env) :: starEach [] X.env := by rfl) : PE X (.Call (.Name "sorted" p) [.Call (.Name "set" p2) [a] [] q] [] pos) (tSortSetI X.K ta) := by
  refine ⟨fun pins s0 σ H Q I0 h => ?_⟩
  refine Call_ (ld_blt I0 hg hm boot_srt ?_)
  refine PyProof.Rows.callWith_builtin1 (PyProof.Rows.args_cons ?_ rfl) rfl rfl
  refine Call_ (ld_blt I0 hg2 hm2 PyProof.Rows.boot_set ?_)
  refine PyProof.Rows.callWith_type1 (PyProof.Rows.args_cons (thn (ha.run pins s0 σ H _ I0 h) fun v s1 ⟨x, H1, I1, r1, q1⟩ => PyProof.Rows.args_nil ?_) na) na rfl
  obtain ⟨l, ns, rfl, hq, hl, h64, q1⟩ := q1
  cases r1
  obtain ⟨its, r, pl, hz⟩ := I1.list hq
  refine call_set_li (P := X.prog) (w := X.w) (ns := ns) (I1.ok.hd hc) pl.isList (by simpa using r.ints) (by unfold scanBound; omega) fun h' tk c R hk => ?_
  refine PyProof.Rows.args_nil ?_
  have I : Inv X pins σ H1 { s1 with heap := h', toks := tk } := I1.kept hk
  obtain ⟨s, es⟩ : ∃ s : Shared, { s1 with heap := h', toks := tk } = s := ⟨_, rfl⟩
  have R : SetR X.w s.heap s1.heap.objs.size (fun j => decide (j ∈ ns)) c := by rw [← es]; exact R
  rw [es] at I
  rw [es]
  have ec := setR_count R
  refine sorted_set R (I.ok.hd hc) (by omega) fun s' p out c ns' k g o hp hg hi hs hm hl => ?_
  have e1 : ns' = srt (dstI ns) := srt_eq (dstI_perm (hs.imp fun h => Int.ne_of_lt h) fun k => by rw [hm k, decide_eq_true_iff]) (hs.imp fun h => Int.le_of_lt h)
  have hlen : (ns'.map V.int).length ≤ sizeLine := by rw [List.length_map, hl, sizeLine_eq]; omega
  have hn : H1 p = none := I.hok.fresh hp
  have J : Inv X pins σ (upd H1 p (.lst (ns'.map V.int))) { s with heap := s'.heap, gens := s'.gens, drawn := s'.drawn, toks := s'.toks } :=
    I.call (ch := []) (Un.laid k hp hn) (I.hok.laid k hp ⟨hlen, out.toList, c, vals_of_ints hi, hg⟩) (by rw [g]; exact I.bare) (fun _ z => nomatch z)
  have e : s' = { s with heap := s'.heap, gens := s'.gens, drawn := s'.drawn, toks := s'.toks } := by
    cases s'
    cases s
    cases o
    rfl
  rw [e]
  rw [e1] at J
  exact ⟨.ref p, _, J, rfl, q1 p hn⟩
def sortSetIK (g : G) (r : R) : Out R := match seqOf g r with
  | some (false, ds) => match asInts ds with
    | some ns => if (decide (ns.length ≤ 4000) && decide ((dstI ns).length < 64)) then .ok (.d (.list (zD (srt (dstI ns))))) g else .no
    | none => .no
  | _ => .no
def fSortSetI (f : FE) : FE := fun g => (f g).bind fun r g1 => sortSetIK g1 r
theorem fSortSetI_ap (f : FE) (g : G) : fSortSetI f g = (f g).bind fun r g1 => sortSetIK g1 r := id rfl
theorem sortSetIK_of {g : G} {r : R} {ns : List Int} (hs : seqOf g r = some (false, zD ns)) (hl : ns.length ≤ 4000) (h : (dstI ns).length < 64) : sortSetIK g r = .ok (.d (.list (zD (srt (dstI ns))))) g := by
  have e : asInts (zD ns) = some ns := asInts_map ns
  simp only [sortSetIK, hs, e, decide_eq_true hl, decide_eq_true h, Bool.and_self, if_true]
section
variable {ρ : Root} {X : Cx} {dx : DX} {a : Expr} {f : FE} {p p2 q0 pos : Pos}
theorem q_sortSetI (hc : X.calm = true) (hg : Gl X "sorted") (hm : X.mg "sorted" = none) (hg2 : Gl X "set") (hm2 : X.mg "set" = none) (ha : PF ρ X dx a f)
    (na : starEach [a] X.env = (false, eval a X.env) :: starEach [] X.env := by rfl) : PF ρ X dx (.Call (.Name "sorted" p) [.Call (.Name "set" p2) [a] [] q0] [] pos) (fSortSetI f) := by
  refine pe_imp (pe_sortSetI hc hg hm hg2 hm2 ha na) fun s H Q ⟨F, g, tm, kk, B, al, S, hk, q⟩ => ?_
  refine ⟨F, g, tm, _, B, al, S, go_bind.mp hk, fun v H1 r g1 B1 al1 hk1 S1 => ?_⟩
  have hv := S1.top rfl
  have S2 := S1.temps (tm' := tm) fun p hp => List.mem_cons_of_mem _ hp
  have hk1 : (sortSetIK g1 r).go dx kk := hk1
  unfold sortSetIK at hk1
  split at hk1
  · rename_i ds hs
    split at hk1
    · rename_i ns hn
      split at hk1
      · rename_i hcond
        rw [Bool.and_eq_true, decide_eq_true_iff, decide_eq_true_iff] at hcond
        cases asInts_eq hn
        obtain ⟨a, xs, rfl, h1, h2⟩ := S2.seq hv hs
        cases dqall_ints h2
        exact ⟨a, ns, rfl, h1, hcond.1, hcond.2, fun p hp => new_l S2 hp (dqall_mkints _) hk1 fun v H' r g' B' al' hr S' rv => q v H' r g' B' al' hr (S'.push rv)⟩
      · exact hk1.elim
    · exact hk1.elim
  · exact hk1.elim
end
end DL
set_option Elab.async false
set_option linter.all false
set_option maxRecDepth 100000
set_option maxHeartbeats 4000000
set_option autoImplicit false
namespace DL
open PySem PySem.Spec PyProof.Rows L2 PySem.W
def fSortItO (f : FE) : FE := fun g => (f g).bind fun r g1 => match r with
  | .m (.dF kvs) => match asIntKV kvs with
    | some ps => newO (.lst (psD (srtP ps))) g1
    | none => .no
  | _ => .no
theorem fSortItO_ap (f : FE) (g : G) : fSortItO f g = (f g).bind fun r g1 => match r with
  | .m (.dF kvs) => match asIntKV kvs with
    | some ps => newO (.lst (psD (srtP ps))) g1
    | none => .no
  | _ => .no := id rfl
section
variable {ρ : Root} {X : Cx} {dx : DX} {e : Expr} {f : FE} {p pos apos cpos : Pos}
theorem q_sortItO (hcalm : X.calm = true) (hg : Gl X "sorted") (hm : X.mg "sorted" = none) (he : PF ρ X dx e f) (hbase : attributeBase e "items" X.env (eval e X.env) = eval e X.env := by rfl) (hline : (apos.endLine == cpos.line) = true := by rfl)
    (hs : starEach [.Call (.Attribute e "items" apos) [] [] cpos] X.env = (false, eval (.Call (.Attribute e "items" apos) [] [] cpos) X.env) :: starEach [] X.env := by rfl) (hpl : (backTo pos (starEach ([] : List Expr) X.env)).any (·.1) = false := by rfl) :
    PF ρ X dx (.Call (.Name "sorted" p) [.Call (.Attribute e "items" apos) [] [] cpos] [] pos) (fSortItO f) :=
  pe_imp (pe_callB (cr_sortItF hcalm) hg hm (by decide +kernel) (pa_cons (pe_itemsF he hbase hline) pa_nil hs) (he := hs) (hpl := hpl)) fun s H Q ⟨F, g, tm, k, B, al, S, hk, q⟩ => by
    refine ⟨F, g, tm, _, B, al, S, go_bind.mp hk, fun x H1 r g1 B1 al1 h1 S1 => ?_⟩
    split at h1
    · rename_i kvs
      split at h1
      · rename_i ps hps
        obtain ⟨a, rfl, _, o, us, h2, no⟩ : RvOk ⟨X.K, ρ⟩ B1 al1 x (.m (.dF kvs)) := S1.top rfl
        have ek := asIntKV_eq hps
        have eu : us = intKV ps := by
          subst ek
          exact intKV_back no
        subst eu
        refine ⟨a, o, ps, rfl, S1.bh _ _ h2, fun p hp => ?_⟩
        have hda : H1 a = some (.frz o (.dK (intKV ps))) := S1.bh _ _ h2
        refine ⟨p, a, o, ps, rfl, upd_same, by rw [upd_ne (ne_of_none hda hp)]; exact hda, fun H' l zs e1 hl hsd hpm hlst htup => ?_⟩
        have hl1 : H1 l = none := by
          cases z : H1 l with
          | none => rfl
          | some u => rw [upd_ne (ne_of_none z hp)] at hl; rw [z] at hl; cases hl
        obtain ⟨H2, eH2⟩ : ∃ H2 : Hp, (fun b => if b = l then none else H' b) = H2 := ⟨_, rfl⟩
        have h2l : H2 l = none := by rw [← eH2]; exact if_pos rfl
        have h2n : ∀ b, b ≠ l → H2 b = H' b := fun b hb => by rw [← eH2]; exact if_neg hb
        have eH : Same H1 H2 := fun b u e => by
          rw [h2n b (fun z => by rw [z, hl1] at e; cases e)]
          exact e1 b u (by rw [upd_ne (ne_of_none e hp)]; exact e)
        have S2 := S1.heapUp eH
        obtain ⟨B2, e2, S3, dq⟩ := S2.adoptPs (zs := zs) fun z hz => by
          rw [h2n z.1 (fun e => by rw [← e, htup z hz] at hlst; cases hlst)]
          exact htup z hz
        have es : srtP ps = zs.map (·.2) := srtP_eq hpm (hsd.imp fun {x y} h => by
          have h' := SrtO.lexB_no.mp h
          rw [leP_iff]
          omega)
        rw [es] at h1
        have eU : upd H2 l (.lst (zs.map fun z => V.ref z.1)) = H' := funext fun b => by
          by_cases hb : b = l
          · rw [hb, upd_same, hlst]
          · rw [upd_ne hb, h2n b hb]
        rw [← eU]
        exact new_o (S3.temps (tm' := tm) fun t ht => List.mem_cons_of_mem _ ht) h2l dq h1 fun v H' r g' B' al' hk' S' hr => q v H' r g' B' al' hk' (S'.push hr)
      · exact h1.elim
    · exact h1.elim
end
end DL
section
open PySem PySem.Spec PyProof.Rows L2 DL
local macro_rules
  | `(tactic| simp! [$ts,*]) => `(tactic| simp only [onI_ap, opMul_ap, opAdd_ap, opEq_ap, opNe_ap, opIsN_ap, opNotN_ap, opIx_ap, opIn_ap, opNotIn_ap, fVar_ap, fC_ap, fOp_ap, fNeg_ap, fAnd_ap, fOr_ap, fNot_ap, fTst_ap, fAndT_ap, fOrT_ap, fNotT_ap, fYes_ap, fIf_ap, fChain_ap, fNil_ap, fCons_ap, fTup_ap, fLst_ap, fLstO_ap, fDict0_ap, fDict0T_ap, fNoP_ap, fPart_ap, fSl_ap, fRev_ap, fCl_ap, clLen_ap, clAbs_ap, clMax_ap, clMin_ap, clInt_ap, clList_ap, clTuple_ap, clAll_ap, clAny_ap, clSum_ap, clSorted_ap, fListO_ap, fIsi_ap, fIsi2_ap, fMt_ap, mtAppend_ap, mtInsert_ap, mtPop_ap, mtExtend_ap, mtIndex_ap, tN_ap, tNil_ap, tCons_ap, tTup_ap, tSub_ap, sNx_ap, sCt_ap, sBk_ap, sSq_ap, sEx_ap, sRt_ap, sRtN_ap, sIte_ap, sSet_ap, sP2_ap, sP3_ap, sAg_ap, sPut_ap, sNo_ap, whSt_ap, sFr_ap, fLc_ap, fLcO_ap, iSeq_ap, iRg1_ap, iRg2_ap, iEn_ap, iZ2_ap, iZ3_ap, clLz2_ap, clLz3_ap, fCall_ap, mkFn_ap, forSt_ap, bind_ok, bind_ex, bind_no, ofO_some, ofM_some, forGo_nil, List.getElem?_cons_zero, List.getElem?_cons_succ, List.set_cons_zero, List.set_cons_succ, List.length_cons, List.length_nil, List.map_cons, List.map_nil, Option.map_some, Option.map_none, List.nil_append, List.cons_append, ite_true, ite_false, if_true, if_false, Bool.and_true, Bool.true_and, Bool.and_self, Bool.false_eq_true, Nat.zero_add, Nat.add_zero, noO, isMade, dictAt, seqOf, datOf, asData, g0, newO, putC, onL, isLst, wipeG, tyOf, ctTy, List.replicate, Nat.sub_self, Nat.reduceSub, Nat.reduceAdd, reduceCtorEq, and_true, true_and, and_self, List.append_nil, List.take_zero, List.take_nil, decide_true, decide_false, Option.some.injEq, Bool.not_true, Bool.not_false, DL.keyOf, tkeyOf, dictC, seqD, List.length_map, shaped_zT, shaped_zL, shaped_pT, shaped_pL, shaped_pD, shaped_int, eqv_zT, eqv_zL, eqv_pT, eqv_pL, eqv_pD, eqv_int, asInts_map, asBools_map, asData_map, any_zD, any_psD, isNR, isN, finF, List.take_succ_cons, shR, resF, decide_eq_true_eq, List.reverse_nil, Nat.reduceLeDiff, Nat.reduceLT, Nat.reduceEqDiff, Int.reduceLT, Int.reduceLE, Int.reduceGT, Int.reduceEq, Int.reduceAdd, Int.reduceSub, Int.reduceMul, Int.reduceNeg, Int.reducePow, Int.reduceToNat, Nat.reducePow, Nat.reduceMul, ↓reduceIte, sTry_ap, tryK_ok, tryK_ex, catchK_true, catchK_false, fIsX_ap, isxK_x, isxK_n, fAttr_ap, attrK_x, sRaise1_ap, raiseK_d, sRaise0_ap, permI_nil, permI_cons, optCons_some, fPerm_ap, sPk_ap, setAll_cons, setAll_nil, opRep_ap, fTupF_ap, tupK_some, fLstL_ap, opIxL_ap, fCallL_ap, tTupA_t, tTupA_l, $ts,*])
  | `(tactic| simp! only [$ts,*]) => `(tactic| simp only [onI_ap, opMul_ap, opAdd_ap, opEq_ap, opNe_ap, opIsN_ap, opNotN_ap, opIx_ap, opIn_ap, opNotIn_ap, fVar_ap, fC_ap, fOp_ap, fNeg_ap, fAnd_ap, fOr_ap, fNot_ap, fTst_ap, fAndT_ap, fOrT_ap, fNotT_ap, fYes_ap, fIf_ap, fChain_ap, fNil_ap, fCons_ap, fTup_ap, fLst_ap, fLstO_ap, fDict0_ap, fDict0T_ap, fNoP_ap, fPart_ap, fSl_ap, fRev_ap, fCl_ap, clLen_ap, clAbs_ap, clMax_ap, clMin_ap, clInt_ap, clList_ap, clTuple_ap, clAll_ap, clAny_ap, clSum_ap, clSorted_ap, fListO_ap, fIsi_ap, fIsi2_ap, fMt_ap, mtAppend_ap, mtInsert_ap, mtPop_ap, mtExtend_ap, mtIndex_ap, tN_ap, tNil_ap, tCons_ap, tTup_ap, tSub_ap, sNx_ap, sCt_ap, sBk_ap, sSq_ap, sEx_ap, sRt_ap, sRtN_ap, sIte_ap, sSet_ap, sP2_ap, sP3_ap, sAg_ap, sPut_ap, sNo_ap, whSt_ap, sFr_ap, fLc_ap, fLcO_ap, iSeq_ap, iRg1_ap, iRg2_ap, iEn_ap, iZ2_ap, iZ3_ap, clLz2_ap, clLz3_ap, fCall_ap, mkFn_ap, forSt_ap, bind_ok, bind_ex, bind_no, ofO_some, ofM_some, forGo_nil, List.getElem?_cons_zero, List.getElem?_cons_succ, List.set_cons_zero, List.set_cons_succ, List.length_cons, List.length_nil, List.map_cons, List.map_nil, Option.map_some, Option.map_none, List.nil_append, List.cons_append, ite_true, ite_false, if_true, if_false, Bool.and_true, Bool.true_and, Bool.and_self, Bool.false_eq_true, Nat.zero_add, Nat.add_zero, noO, isMade, dictAt, seqOf, datOf, asData, g0, newO, putC, onL, isLst, wipeG, tyOf, ctTy, List.replicate, Nat.sub_self, Nat.reduceSub, Nat.reduceAdd, reduceCtorEq, and_true, true_and, and_self, List.append_nil, List.take_zero, List.take_nil, decide_true, decide_false, Option.some.injEq, Bool.not_true, Bool.not_false, DL.keyOf, tkeyOf, dictC, seqD, List.length_map, shaped_zT, shaped_zL, shaped_pT, shaped_pL, shaped_pD, shaped_int, eqv_zT, eqv_zL, eqv_pT, eqv_pL, eqv_pD, eqv_int, asInts_map, asBools_map, asData_map, any_zD, any_psD, isNR, isN, finF, List.take_succ_cons, shR, resF, decide_eq_true_eq, List.reverse_nil, Nat.reduceLeDiff, Nat.reduceLT, Nat.reduceEqDiff, Int.reduceLT, Int.reduceLE, Int.reduceGT, Int.reduceEq, Int.reduceAdd, Int.reduceSub, Int.reduceMul, Int.reduceNeg, Int.reducePow, Int.reduceToNat, Nat.reducePow, Nat.reduceMul, ↓reduceIte, sTry_ap, tryK_ok, tryK_ex, catchK_true, catchK_false, fIsX_ap, isxK_x, isxK_n, fAttr_ap, attrK_x, sRaise1_ap, raiseK_d, sRaise0_ap, permI_nil, permI_cons, optCons_some, fPerm_ap, sPk_ap, setAll_cons, setAll_nil, opRep_ap, fTupF_ap, tupK_some, fLstL_ap, opIxL_ap, fCallL_ap, tTupA_t, tTupA_l, isa_int_int, isa_int_bool, isa_int_list, isa_int_tuple, isa_int_str, isa_bool_int, isa_bool_bool, isa_bool_list, isa_bool_tuple, isa_bool_str, isa_list_int, isa_list_bool, isa_list_list, isa_list_tuple, isa_list_str, isa_tuple_int, isa_tuple_bool, isa_tuple_list, isa_tuple_tuple, isa_tuple_str, isa_str_int, isa_str_bool, isa_str_list, isa_str_tuple, isa_str_str, isa_NoneType_int, isa_NoneType_bool, isa_NoneType_list, isa_NoneType_tuple, isa_NoneType_str, opIsB_b, opIsB_n, opIsB_i, $ts,*])
set_option Elab.async false
set_option linter.all false
set_option maxRecDepth 100000
set_option maxHeartbeats 1000000
set_option autoImplicit false
namespace DL
open PySem PySem.Spec PyProof.Rows L2
def lefts (ps : List (Int × Bool)) : List Int := (ps.filter (·.2)).map (·.1)
def cV : List (Int × Bool) → List Int
  | [] => []
  | _ :: ps => ((lefts ps).length : Int) :: cV ps
def sgl (i : Nat) : Int × Int := ((i : Int), (i : Int))
def vl (f l n : Nat) : List (Int × Int) := (List.range f).map sgl ++ ((f : Int), (l : Int)) :: (List.range' (l + 1) (n - 1 - l)).map sgl
end DL
set_option Elab.async false
set_option linter.all false
set_option maxRecDepth 100000
set_option maxHeartbeats 1000000
set_option autoImplicit false
namespace DL
open PySem PySem.Spec PyProof.Rows L2
def fl1 (p : Int × Int) : List Bool := List.replicate (p.2 - p.1).toNat true ++ [false]
def flC (ps : List (Int × Int)) : List Bool := ps.flatMap fl1
theorem flC_app (a b : List (Int × Int)) : flC (a ++ b) = flC a ++ flC b := List.flatMap_append
theorem flC_cons (p : Int × Int) (b : List (Int × Int)) : flC (p :: b) = fl1 p ++ flC b := List.flatMap_cons
theorem fl1_len {p : Int × Int} (h : p.1 ≤ p.2) : ((fl1 p).length : Int) = p.2 - p.1 + 1 := by
  unfold fl1
  rw [List.length_append, List.length_replicate]
  simp only [List.length_cons, List.length_nil]
  omega
theorem flC_len : ∀ {ps : List (Int × Int)} {a b : Int}, PartF a b ps → ((flC ps).length : Int) = b - a
  | [], a, b, h => by have : a = b := h; simp [flC]; omega
  | p :: ps, a, b, h => by
    have h : p.1 = a ∧ p.1 ≤ p.2 ∧ PartF (p.2 + 1) b ps := h
    have ih := flC_len h.2.2
    have l1 := fl1_len h.2.1
    rw [flC_cons, List.length_append]
    omega
theorem fl1_shift (p : Int × Int) : fl1 (shiftR p) = fl1 p := by
  unfold fl1 shiftR
  simp only
  rw [show p.2 - 1 - (p.1 - 1) = p.2 - p.1 by omega]
theorem flC_shift (ps : List (Int × Int)) : flC (ps.map shiftR) = flC ps := by
  unfold flC
  rw [List.flatMap_map]
  congr 1
  funext p
  exact fl1_shift p
theorem flC_last {ps : List (Int × Int)} (h : ps ≠ []) : flC ps = (flC ps).dropLast ++ [false] := by
  obtain ⟨A, q, e⟩ : ∃ A q, ps = A ++ [q] := ⟨ps.dropLast, ps.getLast h, (List.dropLast_concat_getLast h).symm⟩
  subst e
  have : flC (A ++ [q]) = (flC A ++ List.replicate (q.2 - q.1).toNat true) ++ [false] := by
    rw [flC_app, flC_cons]
    unfold fl1
    simp [flC]
  rw [this, List.dropLast_concat]
/-- flags of a list of runs -/
def flg (ps : List (Int × Int)) : List Bool := (flC ps).dropLast
theorem flg_ini (n : Nat) : flg (iniR n) = List.replicate (n - 1) false := by
  have e : flC (iniR n) = List.replicate n false := by
    unfold flC iniR
    rw [List.flatMap_map]
    have : ∀ l : List Nat, l.flatMap (fun (i : Nat) => fl1 ((i : Int), (i : Int))) = List.replicate l.length false := fun l => by
      induction l with
      | nil => rfl
      | cons i l ih =>
        rw [List.flatMap_cons, ih]
        unfold fl1
        simp [List.replicate_succ]
    rw [this, List.length_range]
  unfold flg
  rw [e, List.dropLast_replicate]
theorem flg_len {ps : List (Int × Int)} {n : Nat} (h : PartF 0 n ps) : (flg ps).length = n - 1 := by
  unfold flg
  have := flC_len h
  rw [List.length_dropLast]
  omega
theorem flg_at {ps : List (Int × Int)} {n : Nat} (h : PartF 0 n ps) {i : Nat} (hi : i < n - 1) : (flg ps)[i]? = (flC ps)[i]? := by
  unfold flg
  have := flC_len h
  rw [List.getElem?_dropLast, if_pos (by omega)]
/-- within a run the flags are set -/
theorem flC_in {A B : List (Int × Int)} {p : Int × Int} {i : Nat} (hA : PartF 0 p.1 A) (h1 : p.1 ≤ i) (h2 : (i : Int) < p.2) : (flC (A ++ p :: B))[i]? = some true := by
  have la := flC_len hA
  rw [flC_app, flC_cons, List.getElem?_append_right (by omega)]
  unfold fl1
  rw [List.append_assoc, List.getElem?_append_left (by rw [List.length_replicate]; omega), List.getElem?_replicate, if_pos (by omega)]
theorem flC_end {A B : List (Int × Int)} {p : Int × Int} {i : Nat} (hA : PartF 0 p.1 A) (hp : p.1 ≤ p.2) (h2 : (i : Int) = p.2) : (flC (A ++ p :: B))[i]? = some false := by
  have la := flC_len hA
  have := hA.le
  rw [flC_app, flC_cons, List.getElem?_append_right (by omega)]
  unfold fl1
  rw [List.append_assoc, List.getElem?_append_right (by rw [List.length_replicate]; omega), List.length_replicate]
  have : i - (flC A).length - (p.2 - p.1).toNat = 0 := by omega
  rw [this]
  rfl
theorem flC_before {A B : List (Int × Int)} {p : Int × Int} {i : Nat} (hA : PartF 0 p.1 A) (h2 : (i : Int) + 1 = p.1) : (flC (A ++ p :: B))[i]? = some false := by
  have la := flC_len hA
  have hne : A ≠ [] := fun z => by subst z; have : (0 : Int) = p.1 := hA; omega
  rw [flC_app, List.getElem?_append_left (by omega), flC_last hne, List.getElem?_append_right (by rw [List.length_dropLast]; omega), List.length_dropLast]
  have : i - ((flC A).length - 1) = 0 := by omega
  rw [this]
  rfl
theorem rep_add (a b : Nat) : List.replicate a true ++ List.replicate b true = List.replicate (a + b) true := List.replicate_append_replicate
theorem dlA {α : Type} (a b : List α) (h : b ≠ []) : (a ++ b).dropLast = a ++ b.dropLast := List.dropLast_append_of_ne_nil h
theorem fl1_T (p : Int × Int) (B : List (Int × Int)) : (fl1 p ++ flC B).dropLast = List.replicate (p.2 - p.1).toNat true ++ ([false] ++ flC B).dropLast := by
  unfold fl1
  rw [List.append_assoc, dlA _ _ (by simp)]
/-- the flags after a person has been taken out -/
theorem flg_next {A B : List (Int × Int)} {p : Int × Int} {n : Nat} (hA : PartF 0 p.1 A) (hp : p.1 ≤ p.2) (hB : PartF (p.2 + 1) n B) :
    (flg (A ++ p :: B)).take (p.1 - 1).toNat ++ List.replicate ((min p.2 ((n : Int) - 2)) - max 0 (p.1 - 1)).toNat true ++ (flg (A ++ p :: B)).drop (p.2 + 1).toNat = flg (nextP (A ++ p :: B) A.length) := by
  have la := flC_len hA
  have lp := fl1_len hp
  have lb := flC_len hB
  have hA0 := hA.le
  have hB0 := hB.le
  have e0 : flC (A ++ p :: B) = flC A ++ (fl1 p ++ flC B) := by rw [flC_app, flC_cons]
  -- the part behind
  have eD : (flg (A ++ p :: B)).drop (p.2 + 1).toNat = (flC B).dropLast := by
    unfold flg
    rw [e0, ← List.append_assoc, List.dropLast_eq_take, List.dropLast_eq_take, List.drop_take, List.drop_append, List.drop_of_length_le (by rw [List.length_append]; omega), List.nil_append, List.length_append, List.length_append]
    have h1 : (p.2 + 1).toNat - ((flC A).length + (fl1 p).length) = 0 := by omega
    rw [h1, List.drop_zero]
    congr 1
    omega
  have eT : (flg (A ++ p :: B)).take (p.1 - 1).toNat = (flC A).dropLast := by
    unfold flg
    rw [List.dropLast_eq_take, List.take_take, List.dropLast_eq_take, e0, List.take_append_of_le_length (by simp only [List.length_append]; omega)]
    congr 1
    simp only [List.length_append]
    omega
  rw [eD, eT]
  unfold nextP
  rcases List.eq_nil_or_concat A with rfl | ⟨A0, q, rfl⟩
  · skip
    have p0 : (0 : Int) = p.1 := hA
    have ef : fstR ([] ++ p :: B) ([] : List (Int × Int)).length = 0 := by unfold fstR; simp; omega
    rw [ef]
    cases B with
    | nil =>
      have hn : p.2 + 1 = (n : Int) := hB
      have el : lstR ([] ++ p :: []) ([] : List (Int × Int)).length = p.2 - 1 := by unfold lstR; simp
      rw [el]
      by_cases q : (0 : Int) ≤ p.2 - 1
      · rw [if_pos q]
        unfold flg
        rw [show (min p.2 ((n : Int) - 2) - max 0 (p.1 - 1)).toNat = (p.2 - 1).toNat by omega]
        simp [flC, fl1]
      · rw [if_neg q, show (min p.2 ((n : Int) - 2) - max 0 (p.1 - 1)).toNat = 0 by omega]
        simp [flC, flg]
    | cons b B =>
      have hb : b.1 = p.2 + 1 ∧ b.1 ≤ b.2 ∧ PartF (b.2 + 1) n B := hB
      have hb0 := hb.2.2.le
      have el : lstR ([] ++ p :: b :: B) ([] : List (Int × Int)).length = b.2 - 1 := by unfold lstR; simp
      rw [el, if_pos (by omega), show (min p.2 ((n : Int) - 2) - max 0 (p.1 - 1)).toNat = p.2.toNat by omega]
      have eR : flg (List.take (([] : List (Int × Int)).length - 1) ([] ++ p :: b :: B) ++ [((0 : Int), b.2 - 1)] ++ List.map shiftR (List.drop (([] : List (Int × Int)).length + 2) ([] ++ p :: b :: B))) = (fl1 (0, b.2 - 1) ++ flC B).dropLast := by
        unfold flg
        rw [flC_app, flC_shift]
        simp [flC]
      rw [eR, flC_cons, fl1_T, fl1_T]
      have e9 : (flC ([] : List (Int × Int))).dropLast = [] := rfl
      rw [e9, List.nil_append, ← List.append_assoc, rep_add]
      congr 2
      show p.2.toNat + (b.2 - b.1).toNat = (b.2 - 1 - 0).toNat
      omega
  · rw [List.concat_eq_append] at *
    obtain ⟨m, hA1, hA2⟩ := hA.split
    have hq : q.1 = m ∧ q.1 ≤ q.2 ∧ q.2 + 1 = p.1 := hA2
    have hm := hA1.le
    have eA : (flC (A0 ++ [q])).dropLast = flC A0 ++ List.replicate (q.2 - q.1).toNat true := by
      rw [flC_app, flC_cons]
      unfold fl1
      simp only [flC, List.flatMap_nil, List.append_nil]
      rw [← List.append_assoc, List.dropLast_concat]
    have ef : fstR ((A0 ++ [q]) ++ p :: B) (A0 ++ [q]).length = q.1 := by
      unfold fstR
      rw [List.length_append, List.getD_eq_getElem?_getD, List.append_assoc, List.getElem?_append_right (by simp)]
      simp
    have et : List.take ((A0 ++ [q]).length - 1) ((A0 ++ [q]) ++ p :: B) = A0 := by
      rw [List.append_assoc, List.take_left' (by simp)]
    have ed : List.drop ((A0 ++ [q]).length + 2) ((A0 ++ [q]) ++ p :: B) = B.drop 1 := by
      rw [List.drop_append, List.drop_of_length_le (by omega), List.nil_append, show (A0 ++ [q]).length + 2 - (A0 ++ [q]).length = 2 by omega]
      rfl
    rw [ef, et, ed, eA]
    cases B with
    | nil =>
      have hn : p.2 + 1 = (n : Int) := hB
      have el : lstR ((A0 ++ [q]) ++ p :: []) (A0 ++ [q]).length = p.2 - 1 := by
        unfold lstR
        rw [show min (((A0 ++ [q]) ++ [p]).length - 1) ((A0 ++ [q]).length + 1) = (A0 ++ [q]).length by simp, List.getD_eq_getElem?_getD, List.getElem?_append_right (Nat.le_refl _), Nat.sub_self]
        rfl
      rw [el, if_pos (by omega)]
      unfold flg
      rw [flC_app, flC_app, flC_cons]
      unfold fl1
      simp only [flC, List.flatMap_nil, List.append_nil, List.drop_nil, List.map_nil, List.dropLast_nil]
      rw [← List.append_assoc, List.dropLast_concat, List.append_assoc, rep_add]
      congr 2
      omega
    | cons b B =>
      have hb : b.1 = p.2 + 1 ∧ b.1 ≤ b.2 ∧ PartF (b.2 + 1) n B := hB
      have hb0 := hb.2.2.le
      have el : lstR ((A0 ++ [q]) ++ p :: b :: B) (A0 ++ [q]).length = b.2 - 1 := by
        unfold lstR
        rw [show min (((A0 ++ [q]) ++ p :: b :: B).length - 1) ((A0 ++ [q]).length + 1) = (A0 ++ [q]).length + 1 by simp only [List.length_append, List.length_cons, List.length_nil]; omega, List.getD_eq_getElem?_getD, List.getElem?_append_right (by omega), show (A0 ++ [q]).length + 1 - (A0 ++ [q]).length = 1 by omega]
        rfl
      rw [el, if_pos (by omega)]
      unfold flg
      have e8 : flC (A0 ++ [(q.1, b.2 - 1)] ++ List.map shiftR (List.drop 1 (b :: B))) = flC A0 ++ (fl1 (q.1, b.2 - 1) ++ flC B) := by
        rw [flC_app, flC_app, flC_shift, flC_cons, List.append_assoc]
        simp [flC]
      rw [e8, dlA (flC A0) _ (by simp [fl1]), fl1_T, flC_cons b, fl1_T]
      rw [List.append_assoc, List.append_assoc]
      congr 1
      rw [← List.append_assoc, ← List.append_assoc, rep_add, rep_add]
      congr 2
      show (q.2 - q.1).toNat + (min p.2 ((n : Int) - 2) - max 0 (p.1 - 1)).toNat + (b.2 - b.1).toNat = (b.2 - 1 - q.1).toNat
      omega
end DL
set_option Elab.async false
set_option linter.all false
set_option maxRecDepth 100000
set_option autoImplicit false
namespace DL
def sc (b : Int) (ks : List Int) : List Int := ks.map (· * b)
end DL
set_option Elab.async false
set_option linter.all false
set_option maxRecDepth 100000
set_option maxHeartbeats 1000000
set_option autoImplicit false
namespace DL
open PySem PySem.Spec PyProof.Rows L2
end DL
set_option Elab.async false
set_option linter.all false
set_option maxRecDepth 100000
set_option maxHeartbeats 1000000
set_option autoImplicit false
namespace DL
open PySem PySem.Spec PyProof.Rows L2
def lotsN : Nat → Int
  | 0 => 1
  | 1 => 1
  | c + 2 => 2 * lotsN (c + 1) + (c : Int) * lotsN c
def atR (here : List (Int × Int)) (k : Nat) : Int × Int := here.getD k (0, 0)
def nxR (here : List (Int × Int)) (k : Nat) : List (Int × Int) := nextR here (atR here k).1
def ValS : Nat → List (Int × Int) → List Nat → Prop
  | 0, _, [] => True
  | n + 1, here, k :: ks => k < here.length ∧ ValS n (nxR here k) ks
  | _, _, _ => False
theorem ValS.len : ∀ {n : Nat} {here : List (Int × Int)} {ks : List Nat}, ValS n here ks → ks.length = n
  | 0, _, [], _ => rfl
  | 0, _, _ :: _, h => h.elim
  | _ + 1, _, [], h => h.elim
  | n + 1, _, k :: ks, h => by rw [List.length_cons, ValS.len h.2]
end DL
set_option Elab.async false
set_option linter.all false
set_option maxRecDepth 100000
set_option maxHeartbeats 1000000
set_option autoImplicit false
namespace DL
open PySem PySem.Spec PyProof.Rows L2
noncomputable def ft_count_lots_1 : FG := (tN 2)
noncomputable def fu_count_lots_1 : FS := (sEx (fMt mtAppend (fVar 1) (fCons (fOp opAdd (fOp opMul (fC (.int 2)) (fOp opIx (fVar 1) (fNeg (fC (.int 1))))) (fOp opMul (fOp opSub (fVar 2) (fC (.int 2))) (fOp opIx (fVar 1) (fNeg (fC (.int 2)))))) fNil)))
noncomputable def b_count_lots : FS :=
  (sSq (sSet (fLstO (fCons (fC (.int 1)) (fCons (fC (.int 1)) fNil))) (tN 1))
  (sSq (sFr (iRg2 (fCons (fC (.int 2)) (fCons (fOp opAdd (fVar 0) (fC (.int 1))) fNil))) ft_count_lots_1 fu_count_lots_1)
  (sRt (fOp opIx (fVar 1) (fVar 0)))))
noncomputable def fn_count_lots : Fn := mkFn 3 b_count_lots
theorem at_m2 {α : Type} (xs : List α) (a b : α) : atI (xs ++ [a] ++ [b]) (-2) = some a := by
  unfold atI ixN
  rw [if_neg (by decide)]
  simp
  rw [if_pos (by omega), show (-2 + ((xs.length : Int) + 2)).toNat = xs.length by omega]
  simp
theorem count_lots_ok {m : Nat} (hm : m < 100) : fn_count_lots [.d (.int m)] [] = .ok (.dat (.int (lotsN m))) [] := by
  have ro2 : rOk 2 = true := rOk_of (by decide) (by decide)
  have rom : rOk ((m : Int) + 1) = true := rOk_of (by omega) (by omega)
  have er : rng 2 ((m : Int) + 1 - 2).toNat = (List.range' 2 (m - 1)).map (fun (j : Nat) => PyData.int (j : Int)) := by
    rw [show ((m : Int) + 1 - 2).toNat = m - 1 by omega]
    exact rngN 2 (m - 1)
  have spl : ∀ i, zD ((List.range (i + 2)).map lotsN) = zD ((List.range i).map lotsN) ++ [PyData.int (lotsN i)] ++ [PyData.int (lotsN (i + 1))] := fun i => by
    rw [List.range_succ, List.range_succ]
    unfold zD
    simp only [List.map_append, List.map_cons, List.map_nil]
  obtain ⟨g', e, a, rfl⟩ := forGo_inv (emb := fun (j : Nat) => PyData.int (j : Int)) (t := ft_count_lots_1) (u := fu_count_lots_1) (xs := List.range' 2 (m - 1)) (g := ⟨[some (.d (.int m)), some (.o 0), none], [.lst [.int 1, .int 1]]⟩)
    (fun i g => ∃ a, g = ⟨[some (.d (.int m)), some (.o 0), a], [.lst (zD ((List.range (i + 2)).map lotsN))]⟩) ⟨none, rfl⟩ (fun i x g hx hI => by
      obtain ⟨a, rfl⟩ := hI
      have hi := (List.getElem?_eq_some_iff.mp hx).1
      rw [List.length_range'] at hi
      have ex : x = 2 + i := by
        rw [List.getElem?_range' hi] at hx
        have := Option.some.inj hx
        omega
      subst ex
      have m1 : mulOk 2 (lotsN (i + 1)) = true := mulOk_l (by decide) (by decide)
      have m2 : mulOk (((2 + i : Nat) : Int) - 2) (lotsN i) = true := mulOk_l (by omega) (by omega)
      have en : 2 * lotsN (i + 1) + (((2 + i : Nat) : Int) - 2) * lotsN i = lotsN (i + 2) := by
        rw [show ((2 + i : Nat) : Int) - 2 = (i : Int) by omega]
        rfl
      have e2 : zD ((List.range (i + 1 + 2)).map lotsN) = zD ((List.range (i + 2)).map lotsN) ++ [PyData.int (lotsN (i + 2))] := by
        rw [show i + 1 + 2 = (i + 2) + 1 by omega, List.range_succ]
        unfold zD
        simp only [List.map_append, List.map_cons, List.map_nil]
      refine ⟨⟨[some (.d (.int m)), some (.o 0), some (.d (.int ((2 + i : Nat) : Int)))], [.lst (zD ((List.range (i + 1 + 2)).map lotsN))]⟩, .inl ?_, _, rfl⟩
      rw [e2, spl i]
      have lz : (zD ((List.range i).map lotsN)).length < 1000 := by rw [List.length_map, List.length_map, List.length_range]; omega
      generalize zD ((List.range i).map lotsN) = Z at lz
      simp! [ft_count_lots_1, fu_count_lots_1, atI_m1, at_m2, m1, m2, en, List.length_append, show Z.length + 1 + 1 < 100000 by omega])
  rw [← er] at e
  have hat : atI (zD ((List.range ((List.range' 2 (m - 1)).length + 2)).map lotsN)) (m : Int) = some (.int (lotsN m)) := by
    rw [atI_cast]
    unfold zD
    rw [List.getElem?_map, List.getElem?_map, List.getElem?_range (by rw [List.length_range']; omega)]
    rfl
  simp! [fn_count_lots, b_count_lots, ro2, rom, e, hat, Nat.zero_le]
noncomputable def ct_single_runs_1 : FG := (tN 1)
noncomputable def cc_single_runs_1 : FT := fYes
noncomputable def cf_single_runs_1 : FE := (fTup (fCons (fVar 1) (fCons (fVar 1) fNil)))
noncomputable def b_single_runs : FS :=
  (sRt (fLcO (iRg1 (fCons (fVar 0) fNil)) ct_single_runs_1 cc_single_runs_1 cf_single_runs_1 [1]))
noncomputable def fn_single_runs : Fn := mkFn 2 b_single_runs
theorem single_runs_ok {m : Nat} (hm : m < 1000) : fn_single_runs [.d (.int m)] [] = .ok (.newC (.lst (psD (iniR m)))) [] := by
  have ro : rOk (m : Int) = true := rOk_of (by omega) (by omega)
  have s := lcGo_map (emb := fun (i : Nat) => PyData.int (i : Int)) (t := ct_single_runs_1) (c := cc_single_runs_1) (f := cf_single_runs_1) (sl := [some (.d (.int m)), none]) (ws := [1]) (ce := []) (fun (k : Nat) => pD ((k : Int), (k : Int))) (xs := List.range m) (by rw [List.length_range]; omega) (fun k _ => by
    simp! [lcSt, ct_single_runs_1, cc_single_runs_1, cf_single_runs_1, pD])
  have e : (List.range m).map (fun (k : Nat) => pD ((k : Int), (k : Int))) = psD (iniR m) := by unfold iniR; rw [psD, List.map_map]; rfl
  rw [e, ← rng0] at s
  simp! [fn_single_runs, b_single_runs, ro, Int.toNat_natCast, s, Nat.zero_le]
end DL
set_option Elab.async false
set_option linter.all false
set_option maxRecDepth 100000
set_option maxHeartbeats 1000000
set_option autoImplicit false
namespace DL
open PySem PySem.Spec PyProof.Rows L2
/-- keys of runs and a size -/
abbrev LzK := List (Int × Int) × Int
abbrev LzA := List (LzK × Int)
def nkP (p : Int × Int) : NestedKey := .tup [.num p.1, .num p.2]
def nkZ (k : LzK) : NestedKey := .tup [.tup (k.1.map nkP), .num k.2]
def keyZ (k : LzK) : PyData := .tuple [.tuple (psD k.1), .int k.2]
def embZ (A : LzA) : List (NestedKey × PyData) := A.map fun e => (nkZ e.1, .int e.2)
def getZ (A : LzA) (k : LzK) : Option Int := (A.find? fun e => decide (e.1 = k)).map (·.2)
def putZ (A : LzA) (k : LzK) (w : Int) : LzA := if (A.find? fun e => decide (e.1 = k)).isSome then A.map (fun e => if e.1 = k then (e.1, w) else e) else A ++ [(k, w)]
def addZ (A : LzA) (k : LzK) (w : Int) : LzA := putZ A k ((getZ A k).getD 0 + w)
theorem nkP_inj : ∀ {a b : List (Int × Int)}, a.map nkP = b.map nkP → a = b
  | [], [], _ => rfl
  | [], _ :: _, h => by cases h
  | _ :: _, [], h => by cases h
  | p :: a, q :: b, h => by
    simp only [List.map_cons, List.cons.injEq, nkP, NestedKey.tup.injEq, NestedKey.num.injEq, and_true] at h
    obtain ⟨⟨h1, h2⟩, h3⟩ := h
    rw [nkP_inj h3, Prod.ext h1 h2]
theorem nkZ_inj {a b : LzK} : nkZ a = nkZ b ↔ a = b := ⟨fun h => by
  simp only [nkZ, NestedKey.tup.injEq, List.cons.injEq, NestedKey.num.injEq, and_true] at h
  exact Prod.ext (nkP_inj h.1) h.2, fun h => by rw [h]⟩
theorem nks_psD : ∀ ps : List (Int × Int), nksOf (psD ps) = some (ps.map nkP)
  | [] => by simp only [psD, List.map_nil, nksOf]
  | p :: ps => by
    show nksOf (PyData.tuple [.int p.1, .int p.2] :: psD ps) = _
    simp only [nksOf, nkOf, nks_psD ps, Option.map_some, List.map_cons, nkP]
theorem dep_P : ∀ ps : List (Int × Int), NestedKey.depthAll (ps.map nkP) ≤ 1
  | [] => by simp [NestedKey.depthAll]
  | p :: ps => by
    have := dep_P ps
    simp only [List.map_cons, NestedKey.depthAll, nkP, NestedKey.depth]
    omega
theorem tnk_Z (k : LzK) : tnk (keyZ k) = some (nkZ k) := by
  have h : nkOf (keyZ k) = some (nkZ k) := by simp only [keyZ, nkOf, nksOf, nks_psD, Option.map_some, nkZ]
  have d : (nkZ k).depth ≤ 8 := by
    have := dep_P k.1
    simp only [nkZ, NestedKey.depth, NestedKey.depthAll]
    omega
  unfold tnk
  rw [h]
  exact if_pos d
theorem datas_P : ∀ ps : List (Int × Int), NestedKey.datas (ps.map nkP) = psD ps
  | [] => by simp only [psD, List.map_nil, NestedKey.datas]
  | p :: ps => by
    show _ = PyData.tuple [.int p.1, .int p.2] :: psD ps
    simp only [List.map_cons, NestedKey.datas, nkP, NestedKey.data, datas_P ps]
theorem data_Z (k : LzK) : (nkZ k).data = keyZ k := by simp only [nkZ, NestedKey.data, NestedKey.datas, datas_P, keyZ]
theorem items_Z (A : LzA) : (embZ A).map itemN = A.map fun e => PyData.tuple [keyZ e.1, .int e.2] := by
  unfold embZ
  rw [List.map_map]
  refine List.map_congr_left fun e _ => ?_
  show PyData.tuple [(nkZ e.1).data, .int e.2] = _
  rw [data_Z]
theorem val_Z (A : LzA) (k : LzK) : valNP (embZ A) (nkZ k) = (getZ A k).map .int := by
  unfold valNP getZ embZ
  induction A with
  | nil => rfl
  | cons e A ih =>
    rw [List.map_cons]
    by_cases h : e.1 = k
    · rw [List.find?_cons_of_pos (by simp [h]), List.find?_cons_of_pos (by simp [h])]; rfl
    · rw [List.find?_cons_of_neg (by simp [nkZ_inj, h]), List.find?_cons_of_neg (by simp [h])]
      exact ih
theorem put_Z (A : LzA) (k : LzK) (w : Int) : putNP (embZ A) (nkZ k) (.int w) = embZ (putZ A k w) := by
  have hs : ((embZ A).find? fun z => decide (z.1 = nkZ k)).isSome = (A.find? fun e => decide (e.1 = k)).isSome := by
    have := congrArg Option.isSome (val_Z A k)
    unfold valNP getZ at this
    simpa only [Option.isSome_map] using this
  unfold putNP putZ
  rw [hs]
  by_cases q : (A.find? fun e => decide (e.1 = k)).isSome = true
  · rw [if_pos q, if_pos q]
    unfold embZ
    rw [List.map_map, List.map_map]
    refine List.map_congr_left fun e _ => ?_
    show (if nkZ e.1 = nkZ k then (nkZ e.1, PyData.int w) else (nkZ e.1, PyData.int e.2)) = (nkZ (if e.1 = k then (e.1, w) else e).1, PyData.int (if e.1 = k then (e.1, w) else e).2)
    by_cases h : e.1 = k
    · rw [if_pos (nkZ_inj.mpr h), if_pos h]
    · rw [if_neg (fun z => h (nkZ_inj.mp z)), if_neg h]
  · rw [if_neg q, if_neg q]
    unfold embZ
    rw [List.map_append]
    rfl
theorem addZ_len (A : LzA) (k : LzK) (w : Int) : (addZ A k w).length ≤ A.length + 1 := by
  unfold addZ putZ
  split
  · rw [List.length_map]; omega
  · rw [List.length_append]; exact Nat.le_refl _
theorem get_add (A : LzA) (k : LzK) (w : Int) : ((getZ A k).map PyData.int).getD (.int 0) = .int ((getZ A k).getD 0) := by
  cases getZ A k <;> rfl
theorem embZ_len (A : LzA) : (embZ A).length = A.length := List.length_map ..
/-- dicts of whole numbers that count -/
abbrev LzI := List (Int × Int)
def embI (A : LzI) : List (L2.Key × PyData) := A.map fun q => (Sum.inl q.1, PyData.int q.2)
def getI (A : LzI) (k : Int) : Option Int := (A.find? fun e => decide (e.1 = k)).map (·.2)
def putI (A : LzI) (k : Int) (w : Int) : LzI := if (A.find? fun e => decide (e.1 = k)).isSome then A.map (fun e => if e.1 = k then (e.1, w) else e) else A ++ [(k, w)]
def addI (A : LzI) (k : Int) (w : Int) : LzI := putI A k ((getI A k).getD 0 + w)
theorem val_I (A : LzI) (k : Int) : valP (embI A) (Sum.inl k) = (getI A k).map .int := by
  unfold getI embI
  induction A with
  | nil => rfl
  | cons e A ih =>
    rw [List.map_cons, valP]
    by_cases h : e.1 = k
    · rw [List.find?_cons_of_pos (by simp [h]), if_pos (by rw [h])]; rfl
    · rw [List.find?_cons_of_neg (by simp [h]), if_neg (fun z => h (Sum.inl.inj z))]
      exact ih
theorem any_I (A : LzI) (k : Int) : (embI A).any (fun p => decide (p.1 = Sum.inl k)) = (A.find? fun e => decide (e.1 = k)).isSome := by
  unfold embI
  induction A with
  | nil => rfl
  | cons e A ih =>
    rw [List.map_cons, List.any_cons, ih]
    by_cases h : e.1 = k
    · rw [List.find?_cons_of_pos (by simp [h])]; simp [h]
    · rw [List.find?_cons_of_neg (by simp [h])]; simp [h]
theorem put_I (A : LzI) (k : Int) (w : Int) : putP (embI A) (Sum.inl k) (.int w) = embI (putI A k w) := by
  unfold putP putI
  rw [any_I]
  by_cases q : (A.find? fun e => decide (e.1 = k)).isSome = true
  · rw [if_pos q, if_pos q]
    unfold embI
    rw [List.map_map, List.map_map]
    refine List.map_congr_left fun e _ => ?_
    show (if (Sum.inl e.1 : L2.Key) = Sum.inl k then ((Sum.inl e.1 : L2.Key), PyData.int w) else ((Sum.inl e.1 : L2.Key), PyData.int e.2)) = ((Sum.inl (if e.1 = k then (e.1, w) else e).1 : L2.Key), PyData.int (if e.1 = k then (e.1, w) else e).2)
    by_cases h : e.1 = k
    · rw [if_pos (by rw [h]), if_pos h]
    · rw [if_neg (fun z => h (Sum.inl.inj z)), if_neg h]
  · rw [if_neg q, if_neg q]
    unfold embI
    rw [List.map_append]
    rfl
theorem get_addI (A : LzI) (k : Int) : ((getI A k).map PyData.int).getD (.int 0) = .int ((getI A k).getD 0) := by
  cases getI A k <;> rfl
theorem addI_len (A : LzI) (k : Int) (w : Int) : (addI A k w).length ≤ A.length + 1 := by
  unfold addI putI
  split
  · rw [List.length_map]; omega
  · rw [List.length_append]; exact Nat.le_refl _
theorem embI_len (A : LzI) : (embI A).length = A.length := List.length_map ..
theorem foldl_len {α β : Type} (f : List α → β → List α) (m : β → Nat) (hf : ∀ L b, (f L b).length ≤ L.length + m b) : ∀ (bs : List β) (L : List α), (bs.foldl f L).length ≤ L.length + (bs.map m).sum
  | [], L => by simp
  | b :: bs, L => by
    have h1 := foldl_len f m hf bs (f L b)
    have h2 := hf L b
    rw [List.foldl_cons, List.map_cons, List.sum_cons]
    omega
theorem foldl_take {α β : Type} (f : α → β → α) {bs : List β} {i : Nat} {b : β} (h : bs[i]? = some b) (L : α) : (bs.take (i + 1)).foldl f L = f ((bs.take i).foldl f L) b := by
  rw [List.take_add_one, h, List.foldl_append]
  rfl
end DL
set_option Elab.async false
set_option linter.all false
set_option maxRecDepth 100000
set_option maxHeartbeats 1000000
set_option autoImplicit false
namespace DL
open PySem PySem.Spec PyProof.Rows L2
end DL
set_option Elab.async false
set_option linter.all false
set_option maxRecDepth 100000
set_option maxHeartbeats 1000000
set_option autoImplicit false
namespace DL
open PySem PySem.Spec PyProof.Rows L2
noncomputable def ct_run_at_1 : FG := (tTupA 2 (tCons (tN 2) (tCons (tN 3) tNil)))
noncomputable def cc_run_at_1 : FT := (fTst (fChain opLe opLe (fVar 2) (fVar 1) (fVar 3)))
noncomputable def cf_run_at_1 : FE := (fTup (fCons (fVar 2) (fCons (fVar 3) fNil)))
noncomputable def b_run_at : FS :=
  (sRt (fOp opIx (fLc (iSeq (fVar 0)) ct_run_at_1 cc_run_at_1 cf_run_at_1 [2, 3]) (fC (.int 0))))
noncomputable def fn_run_at : Fn := mkFn 4 b_run_at
theorem run_at_ok {ps : List (Int × Int)} {z : PyData} {i : Int} (hz : Sq z (psD ps)) (hl : ps.length < 1000) (hp : ∃ p, (ps.filter (inRn i)).head? = some p) : fn_run_at [.d z, .d (.int i)] [] = .ok (.dat (pD (runA ps i))) [] := by
  obtain ⟨p, hp⟩ := hp
  have step := lcGo_pure (emb := pD) (t := ct_run_at_1) (c := cc_run_at_1) (f := cf_run_at_1) (sl := [some (.d z), some (.d (.int i)), none, none]) (ws := [2, 3]) (ce := []) (inRn i) pD ps [] (by simp; omega) (fun q hq => by
    by_cases c1 : q.1 ≤ i <;> by_cases c2 : i ≤ q.2 <;> simp [lcSt, wipeG, ct_run_at_1, cc_run_at_1, cf_run_at_1, pD, onI, asData, inRn, c1, c2])
  have a0 : atI ((ps.filter (inRn i)).map pD) 0 = some (pD (runA ps i)) := (atI_0 _).trans (by
    unfold runA
    rw [List.getElem?_map, ← List.head?_eq_getElem?, hp]
    rfl)
  rcases hz with rfl | rfl <;> simp! [fn_run_at, b_run_at, step, a0]
noncomputable def ct_next_runs_1 : FG := (tTupA 2 (tCons (tN 6) (tCons (tN 7) tNil)))
noncomputable def cc_next_runs_1 : FT := fYes
noncomputable def cf_next_runs_1 : FE := (fTup (fCons (fOp opSub (fVar 6) (fC (.int 1))) (fCons (fOp opSub (fVar 7) (fC (.int 1))) fNil)))
noncomputable def b_next_runs : FS :=
  (sSq (sSet (fMt mtIndex (fVar 0) (fCons (fCall fn_run_at false (fCons (fVar 0) (fCons (fVar 1) fNil))) fNil)) (tN 2))
  (sSq (sP2 3 4 (fCons (fOp opIx (fOp opIx (fVar 0) (fCl clMax (fCons (fC (.int 0)) (fCons (fOp opSub (fVar 2) (fC (.int 1))) fNil)))) (fC (.int 0))) (fCons (fOp opSub (fOp opIx (fOp opIx (fVar 0) (fCl clMin (fCons (fOp opSub (fCl clLen (fCons (fVar 0) fNil)) (fC (.int 1))) (fCons (fOp opAdd (fVar 2) (fC (.int 1))) fNil)))) (fC (.int 1))) (fC (.int 1))) fNil)))
  (sSq (sSet (fLc (iSeq (fSl (fVar 0) (fPart (fOp opAdd (fVar 2) (fC (.int 2)))) fNoP)) ct_next_runs_1 cc_next_runs_1 cf_next_runs_1 [6, 7]) (tN 5))
  (sRt (fOp opAdd (fOp opAdd (fSl (fVar 0) fNoP (fPart (fCl clMax (fCons (fC (.int 0)) (fCons (fOp opSub (fVar 2) (fC (.int 1))) fNil))))) (fIf (fTst (fOp opLe (fVar 3) (fVar 4))) (fLst (fCons (fTup (fCons (fVar 3) (fCons (fVar 4) fNil))) fNil)) (fLst fNil))) (fVar 5))))))
noncomputable def fn_next_runs : Fn := mkFn 8 b_next_runs
theorem next_runs_ok {ps : List (Int × Int)} {i : Int} (hl : ps.length < 1000) (hp : ∃ p, (ps.filter (inRn i)).head? = some p) : fn_next_runs [.d (.list (psD ps)), .d (.int i)] [] = .ok (.dat (.list (psD (nextR ps i)))) [] := by
  have r := run_at_ok (sqL (ds := psD ps)) hl hp
  obtain ⟨p, hp⟩ := hp
  have hr0 : runA ps i = p := by unfold runA; rw [hp]; rfl
  have hm : runA ps i ∈ ps := by rw [hr0]; exact (List.mem_filter.mp (List.mem_of_mem_head? hp)).1
  have hpl : ps.idxOf (runA ps i) < ps.length := List.idxOf_lt_length_of_mem hm
  have ei := index_pair hm
  unfold nextR
  revert ei
  generalize epl : ps.idxOf (runA ps i) = pl at hpl
  intro ei
  have m1 : (if 1 < ((pl : Nat) : Int) then ((pl : Nat) : Int) - 1 else 0) = ((pl - 1 : Nat) : Int) := by split <;> omega
  have m2 : (if ((pl : Nat) : Int) + 1 < ((ps.length : Nat) : Int) - 1 then ((pl : Nat) : Int) + 1 else ((ps.length : Nat) : Int) - 1) = ((min (ps.length - 1) (pl + 1) : Nat) : Int) := by split <;> omega
  obtain ⟨P1, h1⟩ : ∃ P, ps.getD (pl - 1) (0, 0) = P := ⟨_, rfl⟩
  obtain ⟨P2, h2⟩ : ∃ P, ps.getD (min (ps.length - 1) (pl + 1)) (0, 0) = P := ⟨_, rfl⟩
  have a1 : atI (psD ps) ((pl - 1 : Nat) : Int) = some (.tuple [.int P1.1, .int P1.2]) := by
    rw [atI_cast, List.getElem?_map, ← h1, List.getD_eq_getElem?_getD, List.getElem?_eq_getElem (show pl - 1 < ps.length by omega)]; rfl
  have a2 : atI (psD ps) ((min (ps.length - 1) (pl + 1) : Nat) : Int) = some (.tuple [.int P2.1, .int P2.2]) := by
    rw [atI_cast, List.getElem?_map, ← h2, List.getD_eq_getElem?_getD, List.getElem?_eq_getElem (show min (ps.length - 1) (pl + 1) < ps.length by omega)]; rfl
  have ec : cut (psD ps) (some (((pl : Nat) : Int) + 2)) none = psD (ps.drop (pl + 2)) := by
    rw [cut_map, show (((pl : Nat) : Int) + 2) = ((pl + 2 : Nat) : Int) by omega, cut_from]
  have et : cut (psD ps) none (some ((pl - 1 : Nat) : Int)) = psD (ps.take (pl - 1)) := by rw [cut_map, cut_to]
  have step := lcGo_map (emb := pD) (t := ct_next_runs_1) (c := cc_next_runs_1) (f := cf_next_runs_1) (sl := [some (.d (.list (psD ps))), some (.d (.int i)), some (.d (.int (pl : Nat))), some (.d (.int P1.1)), some (.d (.int (P2.2 - 1))), none, none, none]) (ws := [6, 7]) (ce := []) (fun p => pD (shiftR p)) (xs := ps.drop (pl + 2)) (by rw [List.length_drop]; omega) (fun q hq => by
    simp [lcSt, wipeG, ct_next_runs_1, cc_next_runs_1, cf_next_runs_1, pD, onI, asData, shiftR])
  have ez : psD (nextP ps pl) = psD (ps.take (pl - 1)) ++ (if P1.1 ≤ P2.2 - 1 then [pD (P1.1, P2.2 - 1)] else []) ++ (ps.drop (pl + 2)).map (fun p => pD (shiftR p)) := by
    unfold nextP psD fstR lstR
    rw [h1, h2, List.map_append, List.map_append, List.map_map]
    split <;> rfl
  rw [ez]
  obtain ⟨T, hT⟩ : ∃ T, psD (ps.take (pl - 1)) = T := ⟨_, rfl⟩
  obtain ⟨D, hD⟩ : ∃ D, (ps.drop (pl + 2)).map (fun p => pD (shiftR p)) = D := ⟨_, rfl⟩
  have lT : T.length ≤ 1000 := by rw [← hT, List.length_map, List.length_take]; omega
  have lD : D.length ≤ 1000 := by rw [← hD, List.length_map, List.length_drop]; omega
  rw [hT] at et ⊢
  rw [hD] at step ⊢
  have m1' : (if ((pl : Nat) : Int) - 1 > 0 then ((pl : Nat) : Int) - 1 else 0) = ((pl - 1 : Nat) : Int) := by split <;> omega
  have k0 : SeqAt.shaped (.list (psD ps)) = true := shaped_pL
  by_cases c : P1.1 ≤ P2.2 - 1
  · simp! [fn_next_runs, b_next_runs, call_of r, ei, m1', m2, a1, a2, atI_0, atI_1, ec, et, step, cat2, c, show T.length + 1 ≤ 100000 by omega, List.length_append, show T.length + 1 + D.length ≤ 100000 by omega]
    try rfl
  · simp! [fn_next_runs, b_next_runs, call_of r, ei, m1', m2, a1, a2, atI_0, atI_1, ec, et, step, cat2, c, show T.length ≤ 100000 by omega, show T.length + D.length ≤ 100000 by omega]
    try rfl
end DL
set_option Elab.async false
set_option linter.all false
set_option maxRecDepth 100000
set_option maxHeartbeats 1000000
set_option autoImplicit false
namespace DL
open PySem PySem.Spec PyProof.Rows L2
abbrev lsD (ls : List (List (Int × Int))) : List PyData := ls.map fun l => .list (psD l)
theorem part_len : ∀ (ps : List (Int × Int)) (a b : Int), PartF a b ps → (ps.length : Int) ≤ b - a := by
  intro ps
  induction ps with
  | nil => intro a b h; rw [show a = b from h]; simp
  | cons p r ih => intro a b h; have z := ih _ _ h.2.2; have z1 := h.1; have z2 := h.2.1; rw [List.length_cons]; omega
end DL
set_option Elab.async false
set_option linter.all false
set_option maxRecDepth 100000
set_option maxHeartbeats 1000000
set_option autoImplicit false
namespace DL
open PySem PySem.Spec PyProof.Rows L2
noncomputable def ft_lot_sizes_3 : FG := (tTupA 2 (tCons (tN 7) (tCons (tN 8) tNil)))
noncomputable def fu_lot_sizes_3 : FS := (sSq (sSet (fTup (fCons (fCl clTuple (fCons (fCall fn_next_runs false (fCons (fCl clList (fCons (fVar 4) fNil)) (fCons (fVar 7) fNil))) fNil)) (fCons (fOp opMul (fVar 5) (fOp opAdd (fOp opSub (fVar 8) (fVar 7)) (fC (.int 1)))) fNil))) (tN 9))
        (sPutN (fVar 3) (fVar 9) (fOp opAdd (fGetN (fVar 3) (fVar 9) (fC (.int 0))) (fVar 6))))
noncomputable def ft_lot_sizes_2 : FG := (tTupA 2 (tCons (tTupA 2 (tCons (tN 4) (tCons (tN 5) tNil))) (tCons (tN 6) tNil)))
noncomputable def fu_lot_sizes_2 : FS := (sFr (iSeq (fVar 4)) ft_lot_sizes_3 fu_lot_sizes_3)
noncomputable def ft_lot_sizes_1 : FG := (tN 2)
noncomputable def fu_lot_sizes_1 : FS := (sSq (sSet fDict0N (tN 3))
    (sSq (sFr (iItD (fFrzD 1)) ft_lot_sizes_2 fu_lot_sizes_2)
    (sSet (fVar 3) (tN 1))))
noncomputable def ft_lot_sizes_4 : FG := (tTupA 2 (tCons (tTupA 2 (tCons (tN 4) (tCons (tN 5) tNil))) (tCons (tN 6) tNil)))
noncomputable def fu_lot_sizes_4 : FS := (sPut (fVar 10) (fVar 5) (fOp opAdd (fGetK (fVar 10) (fVar 5) (fC (.int 0))) (fVar 6)))
noncomputable def b_lot_sizes : FS :=
  (sSq (sSet (fDisp1N (fTup (fCons (fCl clTuple (fCons (fCall fn_single_runs false (fCons (fVar 0) fNil)) fNil)) (fCons (fC (.int 1)) fNil))) (fC (.int 1))) (tN 1))
  (sSq (sFr (iRg1 (fCons (fVar 0) fNil)) ft_lot_sizes_1 fu_lot_sizes_1)
  (sSq (sSet fDict0 (tN 10))
  (sSq (sFr (iItD (fFrzD 1)) ft_lot_sizes_4 fu_lot_sizes_4)
  (sRt (fSortItO (fFrzD 10)))))))
noncomputable def fn_lot_sizes : Fn := mkFn 11 b_lot_sizes
def inZ (e : LzK × Int) (L : LzA) (ps : List (Int × Int)) : LzA := ps.foldl (fun L p => addZ L (nextR e.1.1 p.1, e.1.2 * (p.2 - p.1 + 1)) e.2) L
def midZ (A L : LzA) : LzA := A.foldl (fun L e => inZ e L e.1.1) L
def stZ (n : Nat) : Nat → LzA
  | 0 => [((iniR n, 1), 1)]
  | t + 1 => midZ (stZ n t) []
def finZ (A : LzA) : LzI := A.foldl (fun L e => addI L e.1.2 e.2) []
def okE (e : LzK × Int) : Bool := decide (e.1.1.length < 1000) && e.1.1.all fun p => decide (p.1 ≤ p.2) && (decide (-1000000 < p.1) && decide (p.2 < 1000000))
def okZ (A : LzA) : Bool := decide (A.length < 90) && A.all okE
theorem inZ_len (e : LzK × Int) (L : LzA) (ps : List (Int × Int)) : (inZ e L ps).length ≤ L.length + ps.length := by
  have := foldl_len (fun (L : LzA) (p : Int × Int) => addZ L (nextR e.1.1 p.1, e.1.2 * (p.2 - p.1 + 1)) e.2) (fun _ => 1) (fun L b => addZ_len _ _ _) ps L
  rw [List.map_const', List.sum_replicate_nat] at this
  unfold inZ
  omega
theorem okE_hd {e : LzK × Int} (he : okE e = true) {p : Int × Int} (hp : p ∈ e.1.1) : e.1.1.length < 1000 ∧ (∃ q, (e.1.1.filter (inRn p.1)).head? = some q) ∧ mulOk e.1.2 (p.2 - p.1 + 1) = true := by
  unfold okE at he
  rw [Bool.and_eq_true, decide_eq_true_eq, List.all_eq_true] at he
  have h := he.2 p hp
  simp only [Bool.and_eq_true, decide_eq_true_eq] at h
  refine ⟨he.1, ?_, mulOk_r (by omega) (by omega)⟩
  have hm : p ∈ e.1.1.filter (inRn p.1) := List.mem_filter.mpr ⟨hp, by
    unfold inRn
    rw [if_pos (decide_eq_true (Int.le_refl _))]
    exact decide_eq_true h.1⟩
  cases hf : e.1.1.filter (inRn p.1) with
  | nil => rw [hf] at hm; cases hm
  | cons q qs => exact ⟨q, rfl⟩
theorem tnk_Z' (ps : List (Int × Int)) (s : Int) : tnk (.tuple [.tuple (psD ps), .int s]) = some (nkZ (ps, s)) := tnk_Z (ps, s)
theorem lz_in {s0 s1 s2 d : Option R} {tl : List Ct} {e : LzK × Int} {L : LzA} {a b c : Option R} (he : okE e = true) (hl : L.length + 1000 < 100000) :
    ∃ a' b' c', forGo ft_lot_sizes_3 fu_lot_sizes_3 (psD e.1.1) ⟨[s0, s1, s2, some (.o tl.length), some (.d (.tuple (psD e.1.1))), some (.d (.int e.1.2)), some (.d (.int e.2)), a, b, c, d], tl ++ [.dN (embZ L)]⟩ = .ok .nx ⟨[s0, s1, s2, some (.o tl.length), some (.d (.tuple (psD e.1.1))), some (.d (.int e.1.2)), some (.d (.int e.2)), a', b', c', d], tl ++ [.dN (embZ (inZ e L e.1.1))]⟩ := by
  obtain ⟨g', f, a', b', c', rfl⟩ := forGo_inv (emb := pD) (t := ft_lot_sizes_3) (u := fu_lot_sizes_3) (xs := e.1.1) (g := ⟨[s0, s1, s2, some (.o tl.length), some (.d (.tuple (psD e.1.1))), some (.d (.int e.1.2)), some (.d (.int e.2)), a, b, c, d], tl ++ [.dN (embZ L)]⟩)
    (fun i g => ∃ a b c, g = ⟨[s0, s1, s2, some (.o tl.length), some (.d (.tuple (psD e.1.1))), some (.d (.int e.1.2)), some (.d (.int e.2)), a, b, c, d], tl ++ [.dN (embZ (inZ e L (e.1.1.take i)))]⟩) ⟨a, b, c, rfl⟩ (fun i p g hp hI => by
      obtain ⟨a, b, c, rfl⟩ := hI
      obtain ⟨h1, h2, h3⟩ := okE_hd he (List.mem_of_getElem? hp)
      have hlen := inZ_len e L (e.1.1.take i)
      rw [List.length_take] at hlen
      have nr := next_runs_ok h1 h2
      have es : inZ e L (e.1.1.take (i + 1)) = addZ (inZ e L (e.1.1.take i)) (nextR e.1.1 p.1, e.1.2 * (p.2 - p.1 + 1)) e.2 := foldl_take _ hp L
      rw [es]
      obtain ⟨M, eM⟩ : ∃ M, inZ e L (e.1.1.take i) = M := ⟨_, rfl⟩
      rw [eM] at hlen ⊢
      obtain ⟨N, eN⟩ : ∃ N, nextR e.1.1 p.1 = N := ⟨_, rfl⟩
      rw [eN] at nr ⊢
      obtain ⟨z, ez⟩ : ∃ z, e.1.2 * (p.2 - p.1 + 1) = z := ⟨_, rfl⟩
      rw [ez]
      have hs := val_Z M (N, z)
      have ga := get_add M (N, z) 0
      have gl' : ∀ (z : Ct), (tl ++ [z])[tl.length]? = some z := fun z => by simp
      have sl' : ∀ (z w : Ct), (tl ++ [z]).set tl.length w = tl ++ [w] := fun z w => set_last
      have pu := put_Z M (N, z) ((getZ M (N, z)).getD 0 + e.2)
      refine ⟨⟨[s0, s1, s2, some (.o tl.length), some (.d (.tuple (psD e.1.1))), some (.d (.int e.1.2)), some (.d (.int e.2)), some (.d (.int p.1)), some (.d (.int p.2)), some (.d (.tuple [.tuple (psD N), .int z])), d], tl ++ [.dN (embZ (addZ M (N, z) e.2))]⟩, .inl ?_, some (.d (.int p.1)), some (.d (.int p.2)), some (.d (.tuple [.tuple (psD N), .int z])), rfl⟩
      simp! [ft_lot_sizes_3, fu_lot_sizes_3, pD, call_of nr, ez, h3, fGetN_ap, sPutN_ap, dnAt, getNK, putNK, gl', sl', tnk_Z', hs, ga, pu, embZ_len, Option.isSome_some, show M.length < 100000 by omega]
      rfl)
  rw [List.take_length] at f
  exact ⟨a', b', c', f⟩
theorem lz_mid {s0 s2 d : Option R} {tl : List Ct} {A : LzA} {kvs : R} {a b c h5 h6 h7 : Option R} (hA : okZ A = true) :
    ∃ a' b' c' h5' h6' h7', forGo ft_lot_sizes_2 fu_lot_sizes_2 (A.map fun e => PyData.tuple [keyZ e.1, .int e.2]) ⟨[s0, some kvs, s2, some (.o tl.length), h5, h6, h7, a, b, c, d], tl ++ [.dN []]⟩ = .ok .nx ⟨[s0, some kvs, s2, some (.o tl.length), h5', h6', h7', a', b', c', d], tl ++ [.dN (embZ (midZ A []))]⟩ := by
  unfold okZ at hA
  rw [Bool.and_eq_true, decide_eq_true_eq, List.all_eq_true] at hA
  obtain ⟨hn, hA⟩ := hA
  obtain ⟨g', f, a', b', c', h5', h6', h7', rfl, _⟩ := forGo_inv (emb := fun (e : LzK × Int) => PyData.tuple [keyZ e.1, .int e.2]) (t := ft_lot_sizes_2) (u := fu_lot_sizes_2) (xs := A) (g := ⟨[s0, some kvs, s2, some (.o tl.length), h5, h6, h7, a, b, c, d], tl ++ [.dN []]⟩)
    (fun i g => ∃ a b c h5 h6 h7, g = ⟨[s0, some kvs, s2, some (.o tl.length), h5, h6, h7, a, b, c, d], tl ++ [.dN (embZ (midZ (A.take i) []))]⟩ ∧ (midZ (A.take i) []).length ≤ 1000 * i) ⟨a, b, c, h5, h6, h7, rfl, Nat.le_refl _⟩ (fun i e g he hI => by
      obtain ⟨a, b, c, h5, h6, h7, rfl, hl⟩ := hI
      have hi := (List.getElem?_eq_some_iff.mp he).1
      have h1 := hA e (List.mem_of_getElem? he)
      have es : midZ (A.take (i + 1)) [] = inZ e (midZ (A.take i) []) e.1.1 := foldl_take (fun (L : LzA) (e : LzK × Int) => inZ e L e.1.1) he []
      have h0 : e.1.1.length < 1000 := by
        unfold okE at h1
        rw [Bool.and_eq_true, decide_eq_true_eq] at h1
        exact h1.1
      have hlen := inZ_len e (midZ (A.take i) []) e.1.1
      rw [es]
      obtain ⟨M, eM⟩ : ∃ M, midZ (A.take i) [] = M := ⟨_, rfl⟩
      rw [eM] at hlen hl ⊢
      obtain ⟨a', b', c', f⟩ := lz_in (s0 := s0) (s1 := some kvs) (s2 := s2) (d := d) (tl := tl) (L := M) (a := a) (b := b) (c := c) h1 (by omega)
      refine ⟨_, .inl ?_, a', b', c', some (.d (.tuple (psD e.1.1))), some (.d (.int e.1.2)), some (.d (.int e.2)), rfl, by omega⟩
      simp! [ft_lot_sizes_2, fu_lot_sizes_2, keyZ, f])
  rw [List.take_length] at f
  exact ⟨a', b', c', h5', h6', h7', f⟩
theorem lz_fin {s0 s1 s2 s3 : Option R} {tl : List Ct} {A : LzA} {a b c h5 h6 h7 : Option R} (hA : okZ A = true) :
    ∃ h5' h6' h7', forGo ft_lot_sizes_4 fu_lot_sizes_4 (A.map fun e => PyData.tuple [keyZ e.1, .int e.2]) ⟨[s0, s1, s2, s3, h5, h6, h7, a, b, c, some (.o tl.length)], tl ++ [.dK []]⟩ = .ok .nx ⟨[s0, s1, s2, s3, h5', h6', h7', a, b, c, some (.o tl.length)], tl ++ [.dK (embI (finZ A))]⟩ := by
  unfold okZ at hA
  rw [Bool.and_eq_true, decide_eq_true_eq, List.all_eq_true] at hA
  obtain ⟨hn, hA⟩ := hA
  obtain ⟨g', f, h5', h6', h7', rfl, _⟩ := forGo_inv (emb := fun (e : LzK × Int) => PyData.tuple [keyZ e.1, .int e.2]) (t := ft_lot_sizes_4) (u := fu_lot_sizes_4) (xs := A) (g := ⟨[s0, s1, s2, s3, h5, h6, h7, a, b, c, some (.o tl.length)], tl ++ [.dK []]⟩)
    (fun i g => ∃ h5 h6 h7, g = ⟨[s0, s1, s2, s3, h5, h6, h7, a, b, c, some (.o tl.length)], tl ++ [.dK (embI (finZ (A.take i)))]⟩ ∧ (finZ (A.take i)).length ≤ i) ⟨h5, h6, h7, rfl, Nat.le_refl _⟩ (fun i e g he hI => by
      obtain ⟨h5, h6, h7, rfl, hl⟩ := hI
      have hi := (List.getElem?_eq_some_iff.mp he).1
      have es : finZ (A.take (i + 1)) = addI (finZ (A.take i)) e.1.2 e.2 := foldl_take (fun (L : LzI) (e : LzK × Int) => addI L e.1.2 e.2) he []
      rw [es]
      obtain ⟨M, eM⟩ : ∃ M, finZ (A.take i) = M := ⟨_, rfl⟩
      rw [eM] at hl ⊢
      have hs := val_I M e.1.2
      have ga := get_addI M e.1.2
      have gl' : ∀ (z : Ct), (tl ++ [z])[tl.length]? = some z := fun z => by simp
      have sl' : ∀ (z w : Ct), (tl ++ [z]).set tl.length w = tl ++ [w] := fun z w => set_last
      have pu := put_I M e.1.2 ((getI M e.1.2).getD 0 + e.2)
      have al := addI_len M e.1.2 e.2
      refine ⟨⟨[s0, s1, s2, s3, some (.d (.tuple (psD e.1.1))), some (.d (.int e.1.2)), some (.d (.int e.2)), a, b, c, some (.o tl.length)], tl ++ [.dK (embI (addI M e.1.2 e.2))]⟩, .inl ?_, _, _, _, rfl, by omega⟩
      simp! [ft_lot_sizes_4, fu_lot_sizes_4, keyZ, fGetK_ap, getKK, dGet, dPut, gl', sl', hs, ga, pu, embI_len, Option.isSome_some, show M.length < 100000 by omega]
      rfl)
  rw [List.take_length] at f
  exact ⟨h5', h6', h7', f⟩
theorem lz_turns {n : Nat} {s0 d : Option R} (hA : ∀ t, t ≤ n → okZ (stZ n t) = true) {a b c h5 h6 h7 s2 s3 : Option R} :
    ∃ tl s2' s3' a' b' c' h5' h6' h7', forGo ft_lot_sizes_1 fu_lot_sizes_1 (rng 0 n) ⟨[s0, some (.o 0), s2, s3, h5, h6, h7, a, b, c, d], [.dN (embZ (stZ n 0))]⟩ = .ok .nx ⟨[s0, some (.o tl.length), s2', s3', h5', h6', h7', a', b', c', d], tl ++ [.dN (embZ (stZ n n))]⟩ := by
  obtain ⟨g', f, tl, s2', s3', a', b', c', h5', h6', h7', rfl⟩ := forGo_inv (emb := fun (i : Nat) => PyData.int (i : Int)) (t := ft_lot_sizes_1) (u := fu_lot_sizes_1) (xs := List.range n) (g := ⟨[s0, some (.o 0), s2, s3, h5, h6, h7, a, b, c, d], [.dN (embZ (stZ n 0))]⟩)
    (fun i g => ∃ tl s2 s3 a b c h5 h6 h7, g = ⟨[s0, some (.o tl.length), s2, s3, h5, h6, h7, a, b, c, d], tl ++ [.dN (embZ (stZ n i))]⟩) ⟨[], s2, s3, a, b, c, h5, h6, h7, rfl⟩ (fun i x g hx hI => by
      obtain ⟨tl, s2, s3, a, b, c, h5, h6, h7, rfl⟩ := hI
      have hi := (List.getElem?_eq_some_iff.mp hx).1
      rw [List.length_range] at hi
      have hA := hA i (by omega)
      have es : stZ n (i + 1) = midZ (stZ n i) [] := rfl
      rw [es]
      obtain ⟨M, eM⟩ : ∃ M, stZ n i = M := ⟨_, rfl⟩
      rw [eM] at hA ⊢
      have ll : (tl ++ [Ct.dead]).length = tl.length + 1 := by simp
      obtain ⟨a', b', c', h5', h6', h7', f⟩ := lz_mid (s0 := s0) (s2 := some (.d (.int x))) (d := d) (tl := tl ++ [.dead]) (A := M) (kvs := .m (.dL (embZ M))) (a := a) (b := b) (c := c) (h5 := h5) (h6 := h6) (h7 := h7) hA
      rw [ll] at f
      have l2 : (tl ++ [Ct.dN (embZ M)]).length = tl.length + 1 := by simp
      have fz : frzDK 1 ⟨[s0, some (.o tl.length), some (.d (.int x)), some (.o (tl.length + 1)), h5, h6, h7, a, b, c, d], tl ++ [.dN (embZ M)] ++ [.dN []]⟩ (some (some (.o tl.length))) = .ok (.m (.dL (embZ M))) ⟨[s0, some (.m (.dL (embZ M))), some (.d (.int x)), some (.o (tl.length + 1)), h5, h6, h7, a, b, c, d], tl ++ [.dead] ++ [.dN []]⟩ := by
        rw [frzDK_N (kvs := embZ M) (by simp)]
        simp
      refine ⟨⟨[s0, some (.o (tl.length + 1)), some (.d (.int x)), some (.o (tl.length + 1)), h5', h6', h7', a', b', c', d], tl ++ [.dead] ++ [.dN (embZ (midZ M []))]⟩, .inl ?_, tl ++ [.dead], _, _, a', b', c', h5', h6', h7', by rw [ll]⟩
      simp! [ft_lot_sizes_1, fu_lot_sizes_1, fDict0N_ap, l2, iItD_ap, fFrzD_ap, fz, items_Z, f])
  rw [← rng0, List.length_range] at f
  exact ⟨tl, s2', s3', a', b', c', h5', h6', h7', f⟩
theorem lot_sizes_ok {n : Nat} (hn : n < 100) (hA : ∀ t, t ≤ n → okZ (stZ n t) = true) : fn_lot_sizes [.d (.int n)] [] = .ok (.newC (.lst (psD (srtP (finZ (stZ n n)))))) [] := by
  have ro : rOk (n : Int) = true := rOk_of (by omega) (by omega)
  have sr := single_runs_ok (m := n) (by omega)
  have ak := asIntKV_of (finZ (stZ n n))
  obtain ⟨tl, s2', s3', a', b', c', h5', h6', h7', f⟩ := lz_turns (n := n) (s0 := some (.d (.int n))) (d := none) hA (a := none) (b := none) (c := none) (h5 := none) (h6 := none) (h7 := none) (s2 := none) (s3 := none)
  have hA := hA n (Nat.le_refl _)
  have e0 : embZ (stZ n 0) = [(nkZ (iniR n, 1), .int 1)] := rfl
  rw [e0] at f
  obtain ⟨M, eM⟩ : ∃ M, stZ n n = M := ⟨_, rfl⟩
  rw [eM] at hA f ak ⊢
  have ll : (tl ++ [Ct.dead]).length = tl.length + 1 := by simp
  obtain ⟨h5, h6, h7, f2⟩ := lz_fin (s0 := some (.d (.int n))) (s1 := some (.m (.dL (embZ M)))) (s2 := s2') (s3 := s3') (tl := tl ++ [.dead]) (A := M) (a := a') (b := b') (c := c') (h5 := h5') (h6 := h6') (h7 := h7') hA
  rw [ll] at f2
  have l2 : (tl ++ [Ct.dN (embZ M)]).length = tl.length + 1 := by simp
  have fz : frzDK 1 ⟨[some (.d (.int n)), some (.o tl.length), s2', s3', h5', h6', h7', a', b', c', some (.o (tl.length + 1))], tl ++ [.dN (embZ M)] ++ [.dK []]⟩ (some (some (.o tl.length))) = .ok (.m (.dL (embZ M))) ⟨[some (.d (.int n)), some (.m (.dL (embZ M))), s2', s3', h5', h6', h7', a', b', c', some (.o (tl.length + 1))], tl ++ [.dead] ++ [.dK []]⟩ := by
    rw [frzDK_N (kvs := embZ M) (by simp)]
    simp
  have fz2 : frzDK 10 ⟨[some (.d (.int n)), some (.m (.dL (embZ M))), s2', s3', h5, h6, h7, a', b', c', some (.o (tl.length + 1))], tl ++ [.dead] ++ [.dK (embI (finZ M))]⟩ (some (some (.o (tl.length + 1)))) = .ok (.m (.dF (embI (finZ M)))) ⟨[some (.d (.int n)), some (.m (.dL (embZ M))), s2', s3', h5, h6, h7, a', b', c', some (.m (.dF (embI (finZ M))))], tl ++ [.dead] ++ [.dead]⟩ := by
    have e1 : (tl ++ [Ct.dead] ++ [Ct.dK (embI (finZ M))])[tl.length + 1]? = some (Ct.dK (embI (finZ M))) := by rw [← ll]; simp
    rw [frzDK_K (kvs := embI (finZ M)) e1]
    have e2 : (tl ++ [Ct.dead] ++ [Ct.dK (embI (finZ M))]).set (tl.length + 1) .dead = tl ++ [.dead] ++ [.dead] := by rw [← ll]; exact set_last
    show Out.ok _ _ = _
    rw [e2]
    rfl
  have d1 : disp1NK 0 ⟨[some (.d (.int n)), none, none, none, none, none, none, none, none, none, none], [.dN []]⟩ (.d (.tuple [.tuple (psD (iniR n)), .int 1])) (.d (.int 1)) = .ok (.o 0) ⟨[some (.d (.int n)), none, none, none, none, none, none, none, none, none, none], [.dN [(nkZ (iniR n, 1), .int 1)]]⟩ := disp1NK_of (ce := []) (tnk_Z' _ _) rfl
  have ak : asIntKV (embI (finZ M)) = some (finZ M) := ak
  have glz : ∀ (L : List Ct) (z : Ct), (L ++ [z])[L.length]? = some z := fun L z => by simp
  simp! [fn_lot_sizes, b_lot_sizes, fDisp1N_ap, ro, call_lst sr, d1, Int.toNat_natCast, f, iItD_ap, fFrzD_ap, l2, fz, items_Z, f2, fSortItO_ap, fz2, ak, glz, Nat.zero_le]
end DL
set_option Elab.async false
set_option linter.all false
set_option maxRecDepth 100000
set_option maxHeartbeats 1000000
set_option autoImplicit false
namespace DL
open PySem PySem.Spec PyProof.Rows L2
/-- how many lots have how many rows, up to eight people -/
def tabZ : Nat → LzI
  | 0 => [(1, 1)]
  | 1 => [(1, 1)]
  | 2 => [(1, 2)]
  | 3 => [(1, 4), (2, 1)]
  | 4 => [(1, 8), (2, 4), (4, 2)]
  | 5 => [(1, 16), (2, 12), (4, 10), (6, 2), (8, 2), (12, 1)]
  | 6 => [(1, 32), (2, 32), (4, 34), (6, 12), (8, 12), (12, 12), (16, 2), (18, 4), (36, 2)]
  | 7 => [(1, 64), (2, 80), (4, 98), (6, 48), (8, 46), (12, 64), (16, 14), (18, 28), (24, 20), (32, 2), (36, 20), (48, 6), (54, 4), (72, 2), (108, 2), (144, 1)]
  | 8 => [(1, 128), (2, 192), (4, 258), (6, 160), (8, 144), (12, 250), (16, 60), (18, 124), (24, 148), (32, 16), (36, 108), (48, 102), (54, 32), (64, 2), (72, 40), (96, 24), (108, 22), (144, 16), (162, 4), (192, 12), (288, 4), (324, 2), (576, 2)]
  | _ => []
theorem okZ_small : ∀ n, n ≤ 8 → ∀ t, t ≤ n → okZ (stZ n t) = true := by
  have h : ((List.range 9).all fun n => (List.range (n + 1)).all fun t => okZ (stZ n t)) = true := by decide +kernel
  intro n hn t ht
  rw [List.all_eq_true] at h
  have h1 := h n (List.mem_range.mpr (by omega))
  rw [List.all_eq_true] at h1
  exact h1 t (List.mem_range.mpr (by omega))
theorem tabZ_sorted : ∀ n, n ≤ 8 → (tabZ n).Pairwise (fun a b => leP a b = true) := by
  have h : ∀ n : Fin 9, (tabZ n.1).Pairwise (fun a b => leP a b = true) := by decide +kernel
  exact fun n hn => h ⟨n, by omega⟩
theorem tabZ_perm : ∀ n, n ≤ 8 → (tabZ n).Perm (finZ (stZ n n)) := by
  have h : ∀ n : Fin 9, (tabZ n.1).Perm (finZ (stZ n.1 n.1)) := by decide +kernel
  exact fun n hn => h ⟨n, by omega⟩
theorem sizes_ok {n : Nat} (hn : n ≤ 8) : fn_lot_sizes [.d (.int n)] [] = .ok (.newC (.lst (psD (tabZ n)))) [] := by
  rw [lot_sizes_ok (by omega) (okZ_small n hn), srtP_eq (tabZ_perm n hn) (tabZ_sorted n hn)]
end DL
set_option Elab.async false
set_option linter.all false
set_option maxRecDepth 100000
set_option maxHeartbeats 1000000
set_option autoImplicit false
namespace DL
open PySem PySem.Spec PyProof.Rows L2
section
variable {K W : Type} [DecidableEq K] {nk : K → NestedKey} {vl : W → PyData}
def embG (nk : K → NestedKey) (vl : W → PyData) (A : List (K × W)) : List (NestedKey × PyData) := A.map fun e => (nk e.1, vl e.2)
def getG (A : List (K × W)) (k : K) : Option W := (A.find? fun e => decide (e.1 = k)).map (·.2)
def putG (A : List (K × W)) (k : K) (w : W) : List (K × W) := if (A.find? fun e => decide (e.1 = k)).isSome then A.map (fun e => if e.1 = k then (e.1, w) else e) else A ++ [(k, w)]
theorem val_G (inj : ∀ {a b : K}, nk a = nk b → a = b) (A : List (K × W)) (k : K) : valNP (embG nk vl A) (nk k) = (getG A k).map vl := by
  unfold valNP getG embG
  induction A with
  | nil => rfl
  | cons e A ih =>
    rw [List.map_cons]
    by_cases h : e.1 = k
    · rw [List.find?_cons_of_pos (by simp [h]), List.find?_cons_of_pos (by simp [h])]; rfl
    · rw [List.find?_cons_of_neg (by simpa using fun z => h (inj z)), List.find?_cons_of_neg (by simp [h])]
      exact ih
theorem put_G (inj : ∀ {a b : K}, nk a = nk b → a = b) (A : List (K × W)) (k : K) (w : W) : putNP (embG nk vl A) (nk k) (vl w) = embG nk vl (putG A k w) := by
  have hs : ((embG nk vl A).find? fun z => decide (z.1 = nk k)).isSome = (A.find? fun e => decide (e.1 = k)).isSome := by
    have := congrArg Option.isSome (val_G (vl := vl) inj A k)
    unfold valNP getG at this
    simpa only [Option.isSome_map] using this
  unfold putNP putG
  rw [hs]
  by_cases q : (A.find? fun e => decide (e.1 = k)).isSome = true
  · rw [if_pos q, if_pos q]
    unfold embG
    rw [List.map_map, List.map_map]
    refine List.map_congr_left fun e _ => ?_
    show (if nk e.1 = nk k then (nk e.1, vl w) else (nk e.1, vl e.2)) = (nk (if e.1 = k then (e.1, w) else e).1, vl (if e.1 = k then (e.1, w) else e).2)
    by_cases h : e.1 = k
    · rw [if_pos (by rw [h]), if_pos h]
    · rw [if_neg (fun z => h (inj z)), if_neg h]
  · rw [if_neg q, if_neg q]
    unfold embG
    rw [List.map_append]
    rfl
theorem putG_len (A : List (K × W)) (k : K) (w : W) : (putG A k w).length ≤ A.length + 1 := by
  unfold putG
  split
  · rw [List.length_map]; omega
  · rw [List.length_append]; exact Nat.le_refl _
theorem getG_D (A : List (K × W)) (k : K) (x : W) : ((getG A k).map vl).getD (vl x) = vl ((getG A k).getD x) := by
  cases getG A k <;> rfl
theorem embG_len (A : List (K × W)) : (embG nk vl A).length = A.length := List.length_map ..
end
/-- runs as keys -/
def nkR (ps : List (Int × Int)) : NestedKey := .tup (ps.map nkP)
theorem nkR_inj {a b : List (Int × Int)} (h : nkR a = nkR b) : a = b := nkP_inj (by
  unfold nkR at h
  injection h)
theorem tnk_R (ps : List (Int × Int)) : tnk (.tuple (psD ps)) = some (nkR ps) := by
  have h : nkOf (.tuple (psD ps)) = some (nkR ps) := by simp only [nkOf, nks_psD, Option.map_some, nkR]
  have d : (nkR ps).depth ≤ 8 := by
    have := dep_P ps
    simp only [nkR, NestedKey.depth]
    omega
  unfold tnk
  rw [h]
  exact if_pos d
/-- widths and a size as keys -/
def nkW (k : List Int × Int) : NestedKey := .tup [.tup (k.1.map .num), .num k.2]
theorem num_inj : ∀ {a b : List Int}, a.map NestedKey.num = b.map NestedKey.num → a = b
  | [], [], _ => rfl
  | [], _ :: _, h => by cases h
  | _ :: _, [], h => by cases h
  | p :: a, q :: b, h => by
    simp only [List.map_cons, List.cons.injEq, NestedKey.num.injEq] at h
    rw [h.1, num_inj h.2]
theorem nkW_inj {a b : List Int × Int} (h : nkW a = nkW b) : a = b := by
  simp only [nkW, NestedKey.tup.injEq, List.cons.injEq, NestedKey.num.injEq, and_true] at h
  exact Prod.ext (num_inj h.1) h.2
theorem nks_zD : ∀ ns : List Int, nksOf (zD ns) = some (ns.map .num)
  | [] => by simp only [zD, List.map_nil, nksOf]
  | n :: ns => by
    show nksOf (PyData.int n :: zD ns) = _
    simp only [nksOf, nkOf, nks_zD ns, List.map_cons]
theorem dep_N : ∀ ns : List Int, NestedKey.depthAll (ns.map .num) = 0
  | [] => by simp [NestedKey.depthAll]
  | n :: ns => by simp only [List.map_cons, NestedKey.depthAll, NestedKey.depth, dep_N ns]; rfl
theorem datas_N : ∀ ns : List Int, NestedKey.datas (ns.map .num) = zD ns
  | [] => by simp only [zD, List.map_nil, NestedKey.datas]
  | n :: ns => by
    show _ = PyData.int n :: zD ns
    simp only [List.map_cons, NestedKey.datas, NestedKey.data, datas_N ns]
theorem tnk_W (ws : List Int) (s : Int) : tnk (.tuple [.tuple (zD ws), .int s]) = some (nkW (ws, s)) := by
  have h : nkOf (.tuple [.tuple (zD ws), .int s]) = some (nkW (ws, s)) := by simp only [nkOf, nksOf, nks_zD, Option.map_some, nkW]
  have d : (nkW (ws, s)).depth ≤ 8 := by
    have := dep_N ws
    simp only [nkW, NestedKey.depth, NestedKey.depthAll]
    omega
  unfold tnk
  rw [h]
  exact if_pos d
theorem data_W (k : List Int × Int) : (nkW k).data = .tuple [.tuple (zD k.1), .int k.2] := by simp only [nkW, NestedKey.data, NestedKey.datas, datas_N]
end DL
set_option Elab.async false
set_option linter.all false
set_option maxRecDepth 100000
set_option maxHeartbeats 1000000
set_option autoImplicit false
namespace DL
open PySem PySem.Spec PyProof.Rows L2
end DL
set_option Elab.async false
set_option linter.all false
set_option maxRecDepth 100000
set_option maxHeartbeats 1000000
set_option autoImplicit false
namespace DL
open PySem PySem.Spec PyProof.Rows L2
noncomputable def b_law_cell_at : FS :=
  (sSq (sIte (fTst (fOp opLt (fVar 1) (fCl clLen (fCons (fVar 0) fNil)))) (sRt (fOp opIx (fVar 0) (fVar 1))) sNx)
  (sRt (fC (.int 0))))
noncomputable def fn_law_cell_at : Fn := mkFn 2 b_law_cell_at
theorem cell_at_ok (ns : List Int) (j : Nat) : fn_law_cell_at [.s ns, .d (.int j)] [] = .ok (.dat (.int (ns.getD j 0))) [] := by
  by_cases h : j < ns.length
  · have e : atI (ns.map PyData.int) (j : Int) = some (.int (ns.getD j 0)) := by
      rw [atI_cast, List.getElem?_map, List.getD_eq_getElem?_getD, List.getElem?_eq_getElem h]; rfl
    simp! [fn_law_cell_at, b_law_cell_at, show (j : Int) < ((ns.length : Nat) : Int) by omega, e]
  · have e : ns.getD j 0 = 0 := by rw [List.getD_eq_getElem?_getD, List.getElem?_eq_none (by omega)]; rfl
    rw [e]
    simp! [fn_law_cell_at, b_law_cell_at, show ¬ ((j : Int) < ((ns.length : Nat) : Int)) by omega]
noncomputable def b_law_box : FS :=
  (sSq (sSet (fCall fn_law_cell_at false (fCons (fVar 0) (fCons (fVar 1) fNil))) (tN 2))
  (sRt (fLstO (fCons (fOp opMul (fCl clAbs (fCons (fVar 2) fNil)) (fCl clInt (fCons (fOp opGe (fCl clAbs (fCons (fVar 2) fNil)) (fOp opPow (fC (.int 10)) (fC (.int 18)))) fNil))) (fCons (fOp opAdd (fOp opAdd (fOp opMod (fVar 2) (fC (.int 2305843009213693951))) (fOp opMul (fC (.int 39373)) (fVar 1))) (fC (.int 29))) (fCons (fC (.int 0)) fNil))))))
noncomputable def fn_law_box : Fn := mkFn 3 b_law_box
theorem box_ok (ns : List Int) (j : Nat) (hj : j < 64) : ∃ bx, fn_law_box [.s ns, .d (.int j)] [] = .ok (.newC (.lst bx)) [] ∧ BoxOk 0 bx := by
  have hp : ((10 : Int) ^ (18 : Int).toNat) = 1000000000000000000 := by decide
  have hm : mulOk (if ns.getD j 0 < 0 then -ns.getD j 0 else ns.getD j 0) (if 1000000000000000000 ≤ if ns.getD j 0 < 0 then -ns.getD j 0 else ns.getD j 0 then 1 else 0) = true := mulOk_r (by split <;> split <;> decide) (by split <;> split <;> decide)
  have hm2 : mulOk 39373 (j : Int) = true := mulOk_l (by decide) (by decide)
  refine ⟨boxM (ns.getD j 0) j, ?_, boxM_ok _ _ hj⟩
  simp! [fn_law_box, b_law_box, call_of (cell_at_ok ns j), hm, hm2, boxM, show (10 : Int).natAbs < 18446744073709551616 by decide, show (0 : Int) < 2305843009213693951 by decide, show (18 : Int) ≤ 1000000 by decide, show (0 : Int) ≤ 18 by decide]
  try rfl
noncomputable def b_law_take (rec : Fn) : FS :=
  (sSq (sIte (fTst (fOp opGt (fOp opIx (fVar 0) (fC (.int 0))) (fC (.int 0)))) (sSq (sSet (fOp opMod (fOp opIx (fVar 0) (fC (.int 0))) (fVar 1)) (tN 2))
    (sSq (sSet (fOp opDiv (fOp opIx (fVar 0) (fC (.int 0))) (fVar 1)) (tSub (fVar 0) (fC (.int 0))))
    (sRt (fVar 2)))) sNx)
  (sSq (sIte (fTst (fOp opGt (fVar 1) (fOp opPow (fC (.int 10)) (fC (.int 7))))) (sRt (fOp opMod (fOp opAdd (fCall rec false (fCons (fVar 0) (fCons (fOp opPow (fC (.int 10)) (fC (.int 7))) fNil))) (fOp opMul (fOp opPow (fC (.int 10)) (fC (.int 7))) (fCall rec false (fCons (fVar 0) (fCons (fOp opAdd (fOp opDiv (fVar 1) (fOp opPow (fC (.int 10)) (fC (.int 7)))) (fC (.int 1))) fNil))))) (fVar 1))) sNx)
  (sSq (sSet (fOp opAdd (fOp opIx (fVar 0) (fC (.int 2))) (fC (.int 1))) (tSub (fVar 0) (fC (.int 2))))
  (sSq (sSet (fOp opMod (fOp opMul (fOp opAdd (fOp opIx (fVar 0) (fC (.int 1))) (fOp opMul (fC (.int 48271)) (fOp opIx (fVar 0) (fC (.int 2))))) (fOp opAdd (fC (.int 39373)) (fOp opIx (fVar 0) (fC (.int 2))))) (fC (.int 2147483647))) (tN 3))
  (sSq (sSet (fOp opMod (fOp opMul (fOp opAdd (fOp opAdd (fVar 3) (fOp opIx (fVar 0) (fC (.int 2)))) (fOp opDiv (fOp opIx (fVar 0) (fC (.int 1))) (fC (.int 1000003)))) (fOp opAdd (fOp opMod (fVar 3) (fC (.int 40009))) (fC (.int 7)))) (fC (.int 2147483629))) (tN 4))
  (sRt (fOp opMod (fOp opDiv (fOp opMod (fOp opAdd (fOp opMul (fVar 4) (fC (.int 48271))) (fVar 3)) (fC (.int 2147483587))) (fC (.int 64))) (fVar 1))))))))
noncomputable def fn_law_take : Nat → Fn
  | 0 => fun _ _ => .no
  | n + 1 => mkFn 5 (b_law_take (fn_law_take n))
def onceM (b c : Int) : Int := (b + 48271 * c) * (39373 + c) % 2147483647
def twiceM (b c : Int) : Int := (onceM b c + c + b / 1000003) * (onceM b c % 40009 + 7) % 2147483629
def drawM (b c below : Int) : Int := (twiceM b c * 48271 + onceM b c) % 2147483587 / 64 % below
theorem ixN_30 : ixN 3 0 = some 0 := rfl
theorem ixN_32 : ixN 3 2 = some 2 := rfl
theorem take_ok : ∀ (k : Nat), k ≤ 4 → ∀ {n : Nat} {bx : List PyData} {below : Int}, BoxOk n bx → n + 2 ^ k < 1000000000 → 1 ≤ below → below ≤ 10 ^ (7 + 6 * k) → ∃ r bx', fn_law_take (k + 1) [.o 0, .d (.int below)] [.lst bx] = .ok (.dat (.int r)) [.lst bx'] ∧ 0 ≤ r ∧ r < below ∧ BoxOk (n + 2 ^ k) bx' := by
  intro k
  induction k with
  | zero =>
    intro hk n bx below hbx hn h1 h2
    obtain ⟨a, b, c, rfl, ha, hb0, hb1, hc0, hc1⟩ := hbx
    have p7 : ((10 : Int) ^ (7 : Int).toNat) = 10000000 := by decide
    have hb : below ≤ 10000000 := h2
    have hlog : below.natAbs.log2 < 9000 := log_small (by omega) (by omega)
    by_cases g1 : 0 < a
    · refine ⟨a % below, [.int (a / below), .int b, .int c], ?_, Int.emod_nonneg _ (by omega), Int.emod_lt_of_pos _ (by omega), ⟨_, _, _, rfl, Int.ediv_nonneg ha (by omega), hb0, hb1, hc0, by omega⟩⟩
      simp! [fn_law_take, b_law_take, atI_0, g1, show (0 : Int) < below by omega, hlog, ixN_30]
    · have m1 : mulOk 48271 (c + 1) = true := mulOk_l (by decide) (by decide)
      have m2 : ∀ u : Int, mulOk u (39373 + (c + 1)) = true := fun u => mulOk_r (by omega) (by omega)
      have m3 : ∀ u v : Int, mulOk u (v % 40009 + 7) = true := fun u v => by
        have := Int.emod_nonneg v (show (40009 : Int) ≠ 0 by decide)
        have := Int.emod_lt_of_pos v (show (0 : Int) < 40009 by decide)
        exact mulOk_r (by omega) (by omega)
      have m4 : ∀ u : Int, mulOk u 48271 = true := fun u => mulOk_r (by decide) (by decide)
      have l1 : (1000003 : Int).natAbs.log2 < 9000 := log_small (by decide) (by decide)
      have l2 : (64 : Int).natAbs.log2 < 9000 := log_small (by decide) (by decide)
      have g2 : ¬ (10000000 : Int) < below := by omega
      refine ⟨drawM b (c + 1) below, [.int a, .int b, .int (c + 1)], ?_, Int.emod_nonneg _ (by omega), Int.emod_lt_of_pos _ (by omega), ⟨_, _, _, rfl, ha, hb0, hb1, by omega, by omega⟩⟩
      simp! [fn_law_take, b_law_take, atI_0, atI_1, atI_2, g1, g2, m1, m2, m3, m4, l1, l2, show (0 : Int) < below by omega, hlog, ixN_32, show (10 : Int).natAbs < 18446744073709551616 by decide, drawM, twiceM, onceM]
  | succ k ih =>
    intro hk n bx below hbx hn h1 h2
    obtain ⟨a, b, c, rfl, ha, hb0, hb1, hc0, hc1⟩ := id hbx
    have hk' : k = 0 ∨ k = 1 ∨ k = 2 ∨ k = 3 := by omega
    have hk2 : 1 ≤ 2 ^ k := Nat.one_le_two_pow
    have hp1 : (10 : Int) ^ (7 + 6 * (k + 1)) ≤ 10 ^ 100 := by rcases hk' with rfl | rfl | rfl | rfl <;> decide
    have hlog : below.natAbs.log2 < 9000 := log_small (by omega) (by omega)
    have e2 : 2 ^ (k + 1) = 2 ^ k + 2 ^ k := by omega
    by_cases g1 : 0 < a
    · refine ⟨a % below, [.int (a / below), .int b, .int c], ?_, Int.emod_nonneg _ (by omega), Int.emod_lt_of_pos _ (by omega), ⟨_, _, _, rfl, Int.ediv_nonneg ha (by omega), hb0, hb1, hc0, by omega⟩⟩
      simp! [fn_law_take, b_law_take, atI_0, g1, show (0 : Int) < below by omega, hlog, ixN_30]
    · by_cases g2 : (10000000 : Int) < below
      · have q1 : (10 : Int) ^ (7 + 6 * k) ≥ 10 ^ 7 := by rcases hk' with rfl | rfl | rfl | rfl <;> decide
        have q2 : (10 : Int) ^ (7 + 6 * (k + 1)) = 10 ^ (6 * k + 6) * 10000000 := by
          rw [show 7 + 6 * (k + 1) = 6 * k + 6 + 7 by omega, Int.pow_add]; rfl
        have q3 : (10 : Int) ^ (7 + 6 * k) = 10 ^ (6 * k + 6) * 10 := by
          rw [show 7 + 6 * k = 6 * k + 6 + 1 by omega, Int.pow_succ]
        have q4 : (10 : Int) ^ (6 * k + 6) ≥ 10 ^ 6 := by rcases hk' with rfl | rfl | rfl | rfl <;> decide
        have q5 : below / 10000000 ≤ 10 ^ (6 * k + 6) := by
          rw [q2] at h2
          exact Int.ediv_le_of_le_mul (by decide) h2
        have q6 : 0 ≤ below / 10000000 := Int.ediv_nonneg (by omega) (by decide)
        obtain ⟨r1, bx1, f1, f2, f3, f4⟩ := ih (by omega) (below := 10000000) hbx (by omega) (by decide) (by omega)
        obtain ⟨r2, bx2, s1, s2, s3, s4⟩ := ih (by omega) (below := below / 10000000 + 1) f4 (by omega) (by omega) (by omega)
        have l1 : (10000000 : Int).natAbs.log2 < 9000 := log_small (by decide) (by decide)
        have m1 : mulOk 10000000 r2 = true := mulOk_l (by decide) (by decide)
        refine ⟨(r1 + 10000000 * r2) % below, bx2, ?_, Int.emod_nonneg _ (by omega), Int.emod_lt_of_pos _ (by omega), s4.mono (by omega)⟩
        have c1 := fun (sl : List (Option R)) => callB_of f1 (j := 0) (g := ⟨sl, [.lst [.int a, .int b, .int c]]⟩) false rfl
        have c2 := fun (sl : List (Option R)) => callB_of s1 (j := 0) (g := ⟨sl, [.lst bx1]⟩) false rfl
        rw [fn_law_take]
        simp! [b_law_take, atI_0, atI_1, atI_2, g1, g2, c1, c2, l1, m1, show (0 : Int) < below by omega, show (10 : Int).natAbs < 18446744073709551616 by decide]
      · have hb : below ≤ 10000000 := by omega
        have m1 : mulOk 48271 (c + 1) = true := mulOk_l (by decide) (by decide)
        have m2 : ∀ u : Int, mulOk u (39373 + (c + 1)) = true := fun u => mulOk_r (by omega) (by omega)
        have m3 : ∀ u v : Int, mulOk u (v % 40009 + 7) = true := fun u v => by
          have := Int.emod_nonneg v (show (40009 : Int) ≠ 0 by decide)
          have := Int.emod_lt_of_pos v (show (0 : Int) < 40009 by decide)
          exact mulOk_r (by omega) (by omega)
        have m4 : ∀ u : Int, mulOk u 48271 = true := fun u => mulOk_r (by decide) (by decide)
        have l1 : (1000003 : Int).natAbs.log2 < 9000 := log_small (by decide) (by decide)
        have l2 : (64 : Int).natAbs.log2 < 9000 := log_small (by decide) (by decide)
        have p2 : 1 ≤ 2 ^ (k + 1) := Nat.one_le_two_pow
        refine ⟨drawM b (c + 1) below, [.int a, .int b, .int (c + 1)], ?_, Int.emod_nonneg _ (by omega), Int.emod_lt_of_pos _ (by omega), ⟨_, _, _, rfl, ha, hb0, hb1, by omega, by omega⟩⟩
        simp! [fn_law_take, b_law_take, atI_0, atI_1, atI_2, g1, g2, m1, m2, m3, m4, l1, l2, show (0 : Int) < below by omega, hlog, ixN_32, show (10 : Int).natAbs < 18446744073709551616 by decide, drawM, twiceM, onceM]
/-- a draw below at most 10 ^ 25 -/
theorem take4 {n : Nat} {bx : List PyData} {below : Int} (h : BoxOk n bx) (hn : n < 900000000) (h1 : 1 ≤ below) (h2 : below ≤ 10 ^ 25) : ∃ r bx', fn_law_take 4 [.o 0, .d (.int below)] [.lst bx] = .ok (.dat (.int r)) [.lst bx'] ∧ 0 ≤ r ∧ r < below ∧ BoxOk (n + 8) bx' := take_ok 3 (by omega) h (by omega) h1 h2
end DL
set_option Elab.async false
set_option linter.all false
set_option maxRecDepth 100000
set_option maxHeartbeats 1000000
set_option autoImplicit false
namespace DL
open PySem PySem.Spec PyProof.Rows L2
end DL
set_option Elab.async false
set_option linter.all false
set_option maxRecDepth 100000
set_option maxHeartbeats 1000000
set_option autoImplicit false
namespace DL
open PySem PySem.Spec PyProof.Rows L2
end DL
set_option Elab.async false
set_option linter.all false
set_option maxRecDepth 100000
set_option maxHeartbeats 1000000
set_option autoImplicit false
namespace DL
open PySem PySem.Spec PyProof.Rows L2
end DL
set_option Elab.async false
set_option linter.all false
set_option maxRecDepth 100000
set_option maxHeartbeats 1000000
set_option autoImplicit false
namespace DL
open PySem PySem.Spec PyProof.Rows L2
end DL
set_option Elab.async false
set_option linter.all false
set_option maxRecDepth 100000
set_option autoImplicit false
namespace DL
open PySem PySem.Spec PyProof.Rows L2
/-- one move: an exchange, or two neighbours whose indices are joined -/
def Mv (here : List (Int × Int)) (ns ms : List Int) : Prop := ∃ A x M y D, ns = rowE A x M y D ∧ ms = rowE A y M x D ∧ (∀ m ∈ M, m < x ∧ m < y) ∧ (M ≠ [] ∨ Jn here A.length)
inductive Rc (here : List (Int × Int)) : List Int → List Int → Prop
  | refl (ns : List Int) : Rc here ns ns
  | step {a b c : List Int} : Mv here a b → Rc here b c → Rc here a c
theorem Rc.trans {here : List (Int × Int)} {a b c : List Int} (h : Rc here a b) : Rc here b c → Rc here a c := by
  induction h with
  | refl _ => exact id
  | step m _ ih => exact fun q => .step m (ih q)
theorem Rc.one {here : List (Int × Int)} {a b : List Int} (h : Mv here a b) : Rc here a b := .step h (.refl _)
theorem Mv.symm {here : List (Int × Int)} {a b : List Int} (h : Mv here a b) : Mv here b a := by
  obtain ⟨A, x, M, y, D, e1, e2, hM, hj⟩ := h
  exact ⟨A, y, M, x, D, e2, e1, fun m hm => ⟨(hM m hm).2, (hM m hm).1⟩, hj⟩
theorem Rc.symm {here : List (Int × Int)} {a b : List Int} (h : Rc here a b) : Rc here b a := by
  induction h with
  | refl _ => exact .refl _
  | step m _ ih => exact ih.trans (.one m.symm)
end DL
set_option Elab.async false
set_option linter.all false
set_option maxRecDepth 100000
set_option maxHeartbeats 1000000
set_option autoImplicit false
namespace DL
open PySem PySem.Spec PyProof.Rows L2
theorem inB_sq {ns : List Int} {x : PyData} {h : Int} (hx : Sq x (zD ns)) (g : G) : inB g (.d (.int h)) (.d x) = some (decide (h ∈ ns)) := by
  rcases hx with rfl | rfl
  · simp only [inB, dictAt, datOf, any_zD, shaped_zL, shaped_int, Bool.and_self, if_true]
  · simp only [inB, dictAt, datOf, seqOf, asInts_map, Option.map_some]
theorem cutZ_to (ns : List Int) (p : Nat) : cut (zD ns) none (some (p : Int)) = zD (ns.take p) := by rw [cut_to]; unfold zD; rw [List.map_take]
theorem cutZ_from (ns : List Int) (p : Nat) : cut (zD ns) (some (p : Int)) none = zD (ns.drop p) := by rw [cut_from]; unfold zD; rw [List.map_drop]
theorem zD_app (a b : List Int) : zD a ++ zD b = zD (a ++ b) := by unfold zD; rw [List.map_append]
end DL
set_option Elab.async false
set_option linter.all false
set_option maxRecDepth 100000
set_option maxHeartbeats 1000000
set_option autoImplicit false
namespace DL
open PySem PySem.Spec PyProof.Rows L2
noncomputable def ct_law_same_1 (rec : Fn) : FG := (tTupA 2 (tCons (tN 2) (tCons (tN 3) tNil)))
noncomputable def cc_law_same_1 (rec : Fn) : FT := fYes
noncomputable def cf_law_same_1 (rec : Fn) : FE := (fCall rec false (fCons (fVar 2) (fCons (fVar 3) fNil)))
noncomputable def b_law_same (rec : Fn) : FS :=
  (sSq (sIte (fTst (fIsi2 "list" "tuple" (fVar 1))) (sSq (sIte (fOrT (fTst (fOp opNe (fIsi "list" (fVar 0)) (fIsi "list" (fVar 1)))) (fTst (fOp opNe (fIsi "tuple" (fVar 0)) (fIsi "tuple" (fVar 1))))) (sRt (fC (.bool false))) sNx)
    (sRt (fAnd (fOp opEq (fCl clLen (fCons (fVar 0) fNil)) (fCl clLen (fCons (fVar 1) fNil))) (fCl clAll (fCons (fLc (iZ2 (fCons (fVar 0) (fCons (fVar 1) fNil))) (ct_law_same_1 rec) (cc_law_same_1 rec) (cf_law_same_1 rec) [2, 3]) fNil))))) sNx)
  (sSq (sIte (fOrT (fTst (fOp opIsN (fVar 1) (fC .none))) (fTst (fIsi2 "bool" "str" (fVar 1)))) (sRt (fAnd (fOp opEq (fVar 0) (fVar 1)) (fAnd (fOp opEq (fIsi "bool" (fVar 0)) (fIsi "bool" (fVar 1))) (fOp opEq (fOp opIsN (fVar 0) (fC .none)) (fOp opIsN (fVar 1) (fC .none)))))) sNx)
  (sRt (fAnd (fIsi "int" (fVar 0)) (fAnd (fNot (fIsi "bool" (fVar 0))) (fOp opEq (fVar 0) (fVar 1)))))))
noncomputable def fn_law_same : Nat → Fn
  | 0 => fun _ _ => .no
  | n + 1 => mkFn 4 (b_law_same (fn_law_same n))
def okD : Nat → PyData → Bool
  | n + 1, .int _ => true
  | n + 1, .bool _ => true
  | n + 1, .none => true
  | n + 1, .str s => PyData.strOk s
  | n + 1, .list ds => decide (ds.length < 1000) && ds.all (okD n)
  | n + 1, .tuple ds => decide (ds.length < 1000) && ds.all (okD n)
  | _, _ => false
theorem sh_bool (b : Bool) : SeqAt.shaped (.bool b) = true := by cases b <;> decide
theorem sh_none : SeqAt.shaped .none = true := by decide
theorem eqv_bb (a b : Bool) : PyData.eqv (.bool a) (.bool b) = decide (a = b) := by cases a <;> cases b <;> rfl
theorem sh_str {s : Str} (h : PyData.strOk s = true) : SeqAt.shaped (.str s) = true := by simp [SeqAt.shaped, PyData.canLay0, PyData.depth, h]
theorem eqv_ss (s : Str) : PyData.eqv (.str s) (.str s) = true := by simp [PyData.eqv]
theorem eqv_nn : PyData.eqv .none .none = true := by rfl
theorem zip2_self (ds : List PyData) : zip2 ds ds = ds.map (fun d => PyData.tuple [d, d]) := by
  have := zip2_map (fun d : PyData => d) (fun d : PyData => d) ds ds
  simp only [List.map_id'] at this
  rw [this]
  induction ds with
  | nil => rfl
  | cons d ds ih => rw [List.zip_cons_cons, List.map_cons, List.map_cons]; congr 1; exact ih (by simpa using zip2_map (fun d : PyData => d) (fun d : PyData => d) ds ds)
theorem same_ok : ∀ (n : Nat) (x : PyData), okD n x = true → fn_law_same n [.d x, .d x] [] = .ok (.dat (.bool true)) []
  | 0, x, h => by cases h
  | n + 1, x, h => by
    have gen : ∀ (ds : List PyData) (y : PyData), (decide (ds.length < 1000) && ds.all (okD n)) = true → lcGo (ct_law_same_1 (fn_law_same n)) (cc_law_same_1 (fn_law_same n)) (cf_law_same_1 (fn_law_same n)) [some (.d y), some (.d y), none, none] [2, 3] (zip2 ds ds) [] [] = .ok ((List.replicate ds.length true).map PyData.bool) ⟨[some (.d y), some (.d y), none, none], []⟩ := fun ds y hd => by
      simp only [Bool.and_eq_true, decide_eq_true_eq, List.all_eq_true] at hd
      have s := lcGo_map (emb := fun d => PyData.tuple [d, d]) (t := ct_law_same_1 (fn_law_same n)) (c := cc_law_same_1 (fn_law_same n)) (f := cf_law_same_1 (fn_law_same n)) (sl := [some (.d y), some (.d y), none, none]) (ws := [2, 3]) (ce := []) (fun _ => .bool true) (xs := ds) (by omega) (fun d hm => by
        have r := same_ok n d (hd.2 d hm)
        simp! [lcSt, ct_law_same_1, cc_law_same_1, cf_law_same_1, call_of r])
      rw [zip2_self, s, List.map_replicate, List.map_const']
    have ea : ∀ k : Nat, (List.replicate k true).all id = true := fun k => by rw [List.all_eq_true]; intro z hz; exact (List.mem_replicate.mp hz).2
    cases x with
    | int i => simp! only [fn_law_same, b_law_same, Bool.or_false, Bool.or_true]
    | bool b => simp! only [fn_law_same, b_law_same, sh_bool, eqv_bb, Bool.or_false, Bool.or_true, Bool.true_or, Bool.false_or]
    | none => simp! only [fn_law_same, b_law_same, sh_bool, sh_none, eqv_nn, eqv_bb, Bool.or_false, Bool.or_true, Bool.true_or, Bool.false_or]
    | str z => simp! only [fn_law_same, b_law_same, sh_bool, sh_str (show PyData.strOk z = true from h), eqv_ss, eqv_bb, Bool.or_false, Bool.or_true, Bool.true_or, Bool.false_or]
    | list ds => simp! only [fn_law_same, b_law_same, sh_bool, eqv_bb, gen ds _ h, ea, Bool.or_false, Bool.or_true, Bool.true_or, Bool.false_or]
    | tuple ds => simp! only [fn_law_same, b_law_same, sh_bool, eqv_bb, gen ds _ h, ea, Bool.or_false, Bool.or_true, Bool.true_or, Bool.false_or]
    | _ => cases h
end DL
set_option Elab.async false
set_option linter.all false
set_option maxRecDepth 100000
set_option maxHeartbeats 1000000
set_option autoImplicit false
namespace DL
open PySem PySem.Spec PyProof.Rows L2
end DL
set_option Elab.async false
set_option linter.all false
set_option maxRecDepth 100000
set_option maxHeartbeats 1000000
set_option autoImplicit false
namespace DL
open PySem PySem.Spec PyProof.Rows L2
end DL
set_option Elab.async false
set_option linter.all false
set_option maxRecDepth 100000
set_option maxHeartbeats 1000000
set_option autoImplicit false
namespace DL
open PySem PySem.Spec PyProof.Rows L2
end DL
set_option Elab.async false
set_option linter.all false
set_option maxRecDepth 100000
set_option autoImplicit false
namespace DL
open PySem PySem.Spec PyProof.Rows L2
theorem sub_len {α : Type} [DecidableEq α] : ∀ {a b : List α}, a.Nodup → (∀ x ∈ a, x ∈ b) → a.length ≤ b.length
  | [], b, _, _ => Nat.zero_le _
  | x :: a, b, nd, h => by
    rw [List.nodup_cons] at nd
    have hx : x ∈ b := h x List.mem_cons_self
    have := sub_len (a := a) (b := b.erase x) nd.2 fun y hy => (List.mem_erase_of_ne (fun (e : y = x) => nd.1 (e ▸ hy))).mpr (h y (List.mem_cons_of_mem _ hy))
    rw [List.length_erase_of_mem hx] at this
    have : 0 < b.length := List.length_pos_of_mem hx
    rw [List.length_cons]
    omega
end DL
set_option Elab.async false
set_option linter.all false
set_option maxRecDepth 100000
set_option autoImplicit false
namespace DL
open PySem PySem.Spec PyProof.Rows L2
end DL
set_option Elab.async false
set_option linter.all false
set_option maxRecDepth 100000
set_option maxHeartbeats 1000000
set_option autoImplicit false
namespace DL
open PySem PySem.Spec PyProof.Rows L2
def rngI (n : Nat) : List Int := (List.range n).map fun (i : Nat) => (i : Int)
structure GoodK (D : List (List Int)) : Prop where
  nd : D.Nodup
  ks : ∀ k ∈ D, ∃ a b : Nat, a < 16 ∧ b < 16 ∧ k = [(a : Int), (b : Int)]
theorem GoodK.len {D : List (List Int)} (g : GoodK D) : D.length ≤ 256 := by
  have := sub_len (b := (List.range 256).map fun (i : Nat) => [((i / 16 : Nat) : Int), ((i % 16 : Nat) : Int)]) g.nd fun k hk => by
    obtain ⟨a, b, ha, hb, rfl⟩ := g.ks k hk
    refine List.mem_map.mpr ⟨16 * a + b, List.mem_range.mpr (by omega), ?_⟩
    have e1 : (16 * a + b) / 16 = a := by omega
    have e2 : (16 * a + b) % 16 = b := by omega
    rw [e1, e2]
  simpa using this
structure Rw (n : Nat) (here : List Int) : Prop where
  len : here.length = n
  nd : here.Nodup
  bd : ∀ z ∈ here, 0 ≤ z ∧ z < (n : Int)
theorem rw_rng (n : Nat) : Rw n (rngI n) := by
  refine ⟨by unfold rngI; rw [List.length_map, List.length_range], ?_, fun z hz => ?_⟩
  · unfold rngI
    exact List.Pairwise.map _ (fun a b h e => h (by exact_mod_cast e)) List.nodup_range
  · obtain ⟨i, hi, rfl⟩ := List.mem_map.mp hz
    have := List.mem_range.mp hi
    omega
theorem Rw.at {n : Nat} {here : List Int} (h : Rw n here) {i : Nat} (hi : i < n) : ∃ a : Nat, a < n ∧ here.getD i 0 = (a : Int) := by
  have hm : here.getD i 0 ∈ here := by
    rw [List.getD_eq_getElem?_getD, List.getElem?_eq_getElem (by rw [h.len]; exact hi)]
    exact List.getElem_mem _
  obtain ⟨h1, h2⟩ := h.bd _ hm
  exact ⟨(here.getD i 0).toNat, by omega, by omega⟩
end DL
set_option Elab.async false
set_option linter.all false
set_option maxRecDepth 100000
set_option maxHeartbeats 1000000
set_option autoImplicit false
namespace DL
open PySem PySem.Spec PyProof.Rows L2
end DL
set_option Elab.async false
set_option linter.all false
set_option maxRecDepth 100000
set_option maxHeartbeats 1000000
set_option autoImplicit false
namespace DL
open PySem PySem.Spec PyProof.Rows L2
end DL
set_option Elab.async false
set_option linter.all false
set_option maxRecDepth 100000
set_option maxHeartbeats 1000000
set_option autoImplicit false
namespace DL
open PySem PySem.Spec PyProof.Rows L2
end DL
set_option Elab.async false
set_option linter.all false
set_option maxRecDepth 100000
set_option maxHeartbeats 1000000
set_option autoImplicit false
namespace DL
open PySem PySem.Spec PyProof.Rows L2
end DL
set_option Elab.async false
set_option linter.all false
set_option maxRecDepth 100000
set_option maxHeartbeats 1000000
set_option autoImplicit false
namespace DL
open PySem PySem.Spec PyProof.Rows L2
end DL
set_option Elab.async false
set_option linter.all false
set_option maxRecDepth 100000
set_option maxHeartbeats 1000000
set_option autoImplicit false
namespace DL
open PySem PySem.Spec PyProof.Rows L2
end DL
set_option Elab.async false
set_option linter.all false
set_option maxRecDepth 100000
set_option maxHeartbeats 1000000
set_option autoImplicit false
namespace DL
open PySem PySem.Spec PyProof.Rows L2
end DL
set_option Elab.async false
set_option linter.all false
set_option maxRecDepth 100000
set_option maxHeartbeats 1000000
set_option autoImplicit false
namespace DL
open PySem PySem.Spec PyProof.Rows L2
end DL
set_option Elab.async false
set_option linter.all false
set_option maxRecDepth 100000
set_option maxHeartbeats 1000000
set_option autoImplicit false
namespace DL
open PySem PySem.Spec PyProof.Rows L2
end DL
set_option Elab.async false
set_option linter.all false
set_option maxRecDepth 100000
set_option maxHeartbeats 1000000
set_option autoImplicit false
namespace DL
open PySem PySem.Spec PyProof.Rows L2
def hO (n : Nat) (O : List Int) (p : Int) : Int := (n : Int) - ((O.idxOf p : Nat) : Int)
end DL
set_option Elab.async false
set_option linter.all false
set_option maxRecDepth 100000
set_option maxHeartbeats 1000000
set_option autoImplicit false
namespace DL
open PySem PySem.Spec PyProof.Rows L2
theorem rng_asc (n : Nat) : (rngI n).Pairwise (· < ·) := by
  unfold rngI
  exact List.Pairwise.map _ (fun a b h => by exact_mod_cast h) List.pairwise_lt_range
end DL
set_option Elab.async false
set_option linter.all false
set_option maxRecDepth 100000
set_option maxHeartbeats 1000000
set_option autoImplicit false
namespace DL
open PySem PySem.Spec PyProof.Rows L2
def ordGo (l : List Int) : Nat → List (List Int)
  | 0 => [[]]
  | k + 1 => (ordGo l k).flatMap fun part => (l.filter fun z => decide (z ∉ part)).map fun z => part ++ [z]
theorem ord_mem {l : List Int} : ∀ {k : Nat} {z : List Int}, z ∈ ordGo l k ↔ z.Nodup ∧ z.length = k ∧ ∀ x ∈ z, x ∈ l
  | 0, z => by
    show z ∈ [[]] ↔ _
    rw [List.mem_singleton]
    constructor
    · rintro rfl
      exact ⟨List.nodup_nil, rfl, fun _ h => nomatch h⟩
    · exact fun h => List.length_eq_zero_iff.mp h.2.1
  | k + 1, z => by
    show z ∈ List.flatMap _ _ ↔ _
    rw [List.mem_flatMap]
    constructor
    · rintro ⟨part, hp, hz⟩
      obtain ⟨x, hx, rfl⟩ := List.mem_map.mp hz
      obtain ⟨h1, h2⟩ := List.mem_filter.mp hx
      have h2 := of_decide_eq_true h2
      obtain ⟨p1, p2, p3⟩ := ord_mem.mp hp
      refine ⟨List.nodup_append.mpr ⟨p1, by simp, fun a ha b hb e => h2 (by rw [← List.mem_singleton.mp hb, ← e]; exact ha)⟩, by rw [List.length_append, p2]; rfl, fun y hy => (List.mem_append.mp hy).elim (p3 y) fun q => by rw [List.mem_singleton.mp q]; exact h1⟩
    · rintro ⟨h1, h2, h3⟩
      have hne : z ≠ [] := fun e => by rw [e] at h2; cases h2
      have e := List.dropLast_concat_getLast hne
      rw [← e] at h1 h2 h3
      obtain ⟨n1, n2, n3⟩ := List.nodup_append.mp h1
      refine ⟨z.dropLast, ord_mem.mpr ⟨n1, ?_, fun x hx => h3 x (List.mem_append.mpr (.inl hx))⟩, List.mem_map.mpr ⟨z.getLast hne, List.mem_filter.mpr ⟨h3 _ (List.mem_append.mpr (.inr (List.mem_singleton.mpr rfl))), decide_eq_true fun q => n3 _ q _ (List.mem_singleton.mpr rfl) rfl⟩, e⟩⟩
      rw [List.length_append] at h2
      simp only [List.length_cons, List.length_nil] at h2
      omega
theorem full_perm {z l : List Int} (hz : z.Nodup) (hl : l.Nodup) (le : z.length = l.length) (hs : ∀ x ∈ z, x ∈ l) : z.Perm l := by
  refine (List.perm_ext_iff_of_nodup hz hl).mpr fun a => ⟨hs a, fun ha => ?_⟩
  by_cases q : a ∈ z
  · exact q
  · have := sub_len (a := a :: z) (b := l) (List.nodup_cons.mpr ⟨q, hz⟩) fun x hx => (List.mem_cons.mp hx).elim (fun e => e ▸ ha) (hs x)
    rw [List.length_cons] at this
    omega
theorem ord_full {l : List Int} (hl : l.Nodup) {z : List Int} : z ∈ ordGo l l.length ↔ z.Perm l := by
  rw [ord_mem]
  exact ⟨fun h => full_perm h.1 hl h.2.1 h.2.2, fun h => ⟨h.nodup_iff.mpr hl, h.length_eq, fun x hx => h.mem_iff.mp hx⟩⟩
def oneT (n : Nat) : List Int := (rngI n).map (· + 1)
theorem oneT_len (n : Nat) : (oneT n).length = n := by unfold oneT; rw [List.length_map, (rw_rng n).len]
theorem oneT_asc (n : Nat) : (oneT n).Pairwise (· < ·) := List.pairwise_map.mpr ((rng_asc n).imp fun h => by omega)
theorem oneT_nd (n : Nat) : (oneT n).Nodup := (oneT_asc n).imp fun h e => by omega
end DL
set_option Elab.async false
set_option linter.all false
set_option maxRecDepth 100000
set_option maxHeartbeats 1000000
set_option autoImplicit false
namespace DL
open PySem PySem.Spec PyProof.Rows L2
noncomputable def ct_law_marks_1 : FG := (tN 4)
noncomputable def cc_law_marks_1 : FT := (fTst (fOp opGe (fVar 4) (fVar 2)))
noncomputable def cf_law_marks_1 : FE := (fVar 4)
noncomputable def ft_law_marks_1 : FG := (tN 2)
noncomputable def fu_law_marks_1 : FS := (sSq (sSet (fLc (iSeq (fVar 0)) ct_law_marks_1 cc_law_marks_1 cf_law_marks_1 [4]) (tN 3))
    (sEx (fMt mtAppend (fVar 1) (fCons (fMt mtIndex (fVar 3) (fCons (fVar 2) fNil)) fNil))))
noncomputable def b_law_marks : FS :=
  (sSq (sSet (fLstO fNil) (tN 1))
  (sSq (sFr (iSeq (fCl clSorted (fCons (fVar 0) fNil))) ft_law_marks_1 fu_law_marks_1)
  (sRt (fCl clTuple (fCons (fVar 1) fNil)))))
noncomputable def fn_law_marks : Fn := mkFn 5 b_law_marks
theorem marks_ok {ns : List Int} {x : PyData} (hx : Sq x (zD ns)) (hl : ns.length < 1000) : fn_law_marks [.d x] [] = .ok (.dat (.tuple (zD (codesM ns)))) [] := by
  obtain ⟨g', e, a, b, rfl⟩ := forGo_inv (emb := PyData.int) (t := ft_law_marks_1) (u := fu_law_marks_1) (xs := srt ns) (g := ⟨[some (.d x), some (.o 0), none, none, none], [.lst []]⟩)
    (fun i g => ∃ a b, g = ⟨[some (.d x), some (.o 0), a, b, none], [.lst (zD ((codesM ns).take i))]⟩) ⟨none, none, rfl⟩ (fun i z g hz hI => by
      obtain ⟨a, b, rfl⟩ := hI
      have hm : z ∈ ns := srt_mem.mp (List.mem_of_getElem? hz)
      have hi : i < ns.length := by rw [← srt_len ns]; exact (List.getElem?_eq_some_iff.mp hz).1
      have hc : (codesM ns)[i]? = some (codeI ns z) := by unfold codesM; rw [List.getElem?_map, hz]; rfl
      have e1 : zD ((codesM ns).take (i + 1)) = zD ((codesM ns).take i) ++ [PyData.int (codeI ns z)] := by rw [List.take_add_one, hc]; unfold zD; rw [List.map_append]; rfl
      have s := lcGo_pure (emb := PyData.int) (t := ct_law_marks_1) (c := cc_law_marks_1) (f := cf_law_marks_1) (sl := [some (.d x), some (.o 0), some (.d (.int z)), b, none]) (ws := [4]) (ce := [.lst (zD ((codesM ns).take i))]) (fun n => decide (z ≤ n)) PyData.int ns [] (by simp; omega) (fun w _ => by
        by_cases q : z ≤ w <;> simp! [lcSt, ct_law_marks_1, cc_law_marks_1, cf_law_marks_1, q])
      rw [List.nil_append] at s
      have hmr : z ∈ restR ns z := List.mem_filter.mpr ⟨hm, decide_eq_true (Int.le_refl _)⟩
      have ix := index_int hmr
      have er : (ns.filter (fun n => decide (z ≤ n))) = restR ns z := rfl
      rw [er] at s
      have len : ((codesM ns).take i).length < 100000 := by rw [List.length_take, codes_len]; omega
      refine ⟨⟨[some (.d x), some (.o 0), some (.d (.int z)), some (.d (.list (zD (restR ns z)))), none], [.lst (zD ((codesM ns).take (i + 1)))]⟩, .inl ?_, _, _, rfl⟩
      rw [e1]
      rcases hx with rfl | rfl <;> simp! [ft_law_marks_1, fu_law_marks_1, s, ix, len] <;> rfl)
  rw [srt_len, List.take_of_length_le (by rw [codes_len]; exact Nat.le_refl _)] at e
  rcases hx with rfl | rfl <;> simp! [fn_law_marks, b_law_marks, e]
noncomputable def ft_law_intervals_1 : FG := (tN 4)
noncomputable def fu_law_intervals_1 : FS := (sIte (fOrT (fTst (fOp opEq (fVar 4) (fOp opSub (fVar 1) (fC (.int 1))))) (fNotT (fTst (fOp opIx (fVar 0) (fVar 4))))) (sSq (sEx (fMt mtAppend (fVar 2) (fCons (fTup (fCons (fVar 3) (fCons (fVar 4) fNil))) fNil)))
      (sSet (fOp opAdd (fVar 4) (fC (.int 1))) (tN 3))) sNx)
noncomputable def b_law_intervals : FS :=
  (sSq (sP2 2 3 (fCons (fLstO fNil) (fCons (fC (.int 0)) fNil)))
  (sSq (sFr (iRg1 (fCons (fVar 1) fNil)) ft_law_intervals_1 fu_law_intervals_1)
  (sRt (fVar 2))))
noncomputable def fn_law_intervals : Fn := mkFn 5 b_law_intervals
abbrev bD (l : List Bool) : List PyData := l.map PyData.bool
theorem intervals_ok {here : List (Int × Int)} {n : Nat} (hp : PartF 0 n here) (hn : n < 1000) : fn_law_intervals [.d (.list (bD (flg here))), .d (.int n)] [] = .ok (.newC (.lst (psD here))) [] := by
  have lh := part_len _ _ _ hp
  obtain ⟨g', e, X, Y, f, a, rfl, eXY, hX, hY, hend⟩ := forGo_inv (emb := fun (i : Nat) => PyData.int (i : Int)) (t := ft_law_intervals_1) (u := fu_law_intervals_1) (xs := List.range n) (g := ⟨[some (.d (.list (bD (flg here)))), some (.d (.int n)), some (.o 0), some (.d (.int 0)), none], [.lst []]⟩)
    (fun i g => ∃ (X Y : List (Int × Int)) (f : Int) (a : Option R), g = ⟨[some (.d (.list (bD (flg here)))), some (.d (.int n)), some (.o 0), some (.d (.int f)), a], [.lst (psD X)]⟩ ∧ here = X ++ Y ∧ PartF 0 f X ∧ PartF f n Y ∧ f ≤ i ∧ ∀ p Z, Y = p :: Z → (i : Int) ≤ p.2) ⟨[], here, 0, none, rfl, rfl, rfl, hp, Int.le_refl _, fun p Z e => by
        subst e
        have := part_mem hp List.mem_cons_self
        show ((0 : Nat) : Int) ≤ p.2
        omega⟩ (fun i k g hk hI => by
      obtain ⟨X, Y, f, a, rfl, eXY, hX, hY, hf, hi2⟩ := hI
      have hi : i < n := by
        have := (List.getElem?_eq_some_iff.mp hk).1
        simpa using this
      have ek : k = i := by
        have := (List.getElem?_eq_some_iff.mp hk).2
        simpa using this.symm
      subst ek
      cases Y with
      | nil => have : f = (n : Int) := hY; omega
      | cons p Z =>
        have hY' : p.1 = f ∧ p.1 ≤ p.2 ∧ PartF (p.2 + 1) n Z := hY
        have hle := hY'.2.2.le
        have h2 := hi2 p Z rfl
        have hX' : PartF 0 p.1 X := by rw [hY'.1]; exact hX
        have lX : X.length < 100000 := by have := congrArg List.length eXY; rw [List.length_append] at this; omega
        by_cases q : (k : Int) = p.2
        · have fin : ∀ (b : Option R), ∃ (X' Y' : List (Int × Int)) (f' : Int) (a' : Option R), (⟨[some (.d (.list (bD (flg here)))), some (.d (.int n)), some (.o 0), some (.d (.int ((k : Int) + 1))), some (.d (.int k))], [.lst (psD X ++ [.tuple [.int f, .int k]])]⟩ : G) = ⟨[some (.d (.list (bD (flg here)))), some (.d (.int n)), some (.o 0), some (.d (.int f')), a'], [.lst (psD X')]⟩ ∧ here = X' ++ Y' ∧ PartF 0 f' X' ∧ PartF f' n Y' ∧ f' ≤ ((k + 1 : Nat) : Int) ∧ ∀ p Z, Y' = p :: Z → ((k + 1 : Nat) : Int) ≤ p.2 := fun b => by
            refine ⟨X ++ [p], Z, (k : Int) + 1, some (.d (.int k)), ?_, by rw [eXY, List.append_assoc]; rfl, hX'.app (show PartF p.1 _ [p] from ⟨rfl, hY'.2.1, by show p.2 + 1 = (k : Int) + 1; omega⟩), by rw [q]; exact hY'.2.2, by omega, fun r W e => ?_⟩
            · have : psD (X ++ [p]) = psD X ++ [.tuple [.int f, .int k]] := by
                unfold psD
                rw [List.map_append, q, ← hY'.1]
                rfl
              rw [this]
            · subst e
              have hr := part_mem hY'.2.2 List.mem_cons_self
              omega
          refine ⟨_, .inl ?_, fin none⟩
          by_cases q2 : (k : Int) = (n : Int) - 1
          · simp! [ft_law_intervals_1, fu_law_intervals_1, q2, lX]
          · have hfl : (flg here)[k]? = some false := by
              rw [flg_at hp (by omega), eXY]
              exact flC_end hX' hY'.2.1 q
            have hat : atI (bD (flg here)) (k : Int) = some (.bool false) := by rw [atI_cast, List.getElem?_map, hfl]; rfl
            simp! [ft_law_intervals_1, fu_law_intervals_1, q2, hat, lX]
        · have hfl : (flg here)[k]? = some true := by
            rw [flg_at hp (by omega), eXY]
            exact flC_in hX' (by omega) (by omega)
          have hat : atI (bD (flg here)) (k : Int) = some (.bool true) := by rw [atI_cast, List.getElem?_map, hfl]; rfl
          have q2 : ¬ (k : Int) = (n : Int) - 1 := by omega
          refine ⟨⟨[some (.d (.list (bD (flg here)))), some (.d (.int n)), some (.o 0), some (.d (.int f)), some (.d (.int k))], [.lst (psD X)]⟩, .inl ?_, X, p :: Z, f, _, rfl, eXY, hX, hY, by omega, fun r W e => ?_⟩
          · simp! [ft_law_intervals_1, fu_law_intervals_1, q2, hat]
          · cases e
            omega)
  rw [← rng0] at e
  have eY : Y = [] := by
    cases Y with
    | nil => rfl
    | cons p Z =>
      have := hend.2 p Z rfl
      rw [List.length_range] at this
      have := part_mem hY List.mem_cons_self
      omega
  subst eY
  rw [List.append_nil] at eXY
  subst eXY
  have ro : rOk (n : Int) = true := rOk_of (by omega) (by omega)
  simp! [fn_law_intervals, b_law_intervals, ro, Int.toNat_natCast, e, Nat.zero_le]
end DL
set_option Elab.async false
set_option linter.all false
set_option maxRecDepth 100000
set_option maxHeartbeats 1000000
set_option autoImplicit false
namespace DL
open PySem PySem.Spec PyProof.Rows L2
noncomputable def wt_law_run_lists_1 : FT := (fAndT (fTst (fOp opGt (fVar 5) (fC (.int 0)))) (fTst (fOp opIx (fVar 1) (fOp opSub (fVar 5) (fC (.int 1))))))
noncomputable def wu_law_run_lists_1 : FS := (sSet (fOp opSub (fVar 5) (fC (.int 1))) (tN 5))
noncomputable def wt_law_run_lists_2 : FT := (fAndT (fTst (fOp opLt (fVar 6) (fCl clLen (fCons (fVar 1) fNil)))) (fTst (fOp opIx (fVar 1) (fVar 6))))
noncomputable def wu_law_run_lists_2 : FS := (sSet (fOp opAdd (fVar 6) (fC (.int 1))) (tN 6))
noncomputable def ft_law_run_lists_1 : FG := (tTupA 2 (tCons (tN 3) (tCons (tN 4) tNil)))
noncomputable def fu_law_run_lists_1 : FS := (sSq (sEx (fMt mtAppend (fVar 2) (fCons (fCall fn_law_intervals false (fCons (fVar 1) (fCons (fOp opSub (fCl clLen (fCons (fVar 0) fNil)) (fVar 3)) fNil))) fNil)))
    (sSq (sSet (fVar 4) (tN 5))
    (sSq (sWh wt_law_run_lists_1 wu_law_run_lists_1)
    (sSq (sSet (fVar 4) (tN 6))
    (sSq (sWh wt_law_run_lists_2 wu_law_run_lists_2)
    (sSq (sP2 7 8 (fCons (fSl (fVar 1) fNoP (fPart (fCl clMax (fCons (fC (.int 0)) (fCons (fOp opSub (fVar 5) (fC (.int 1))) fNil))))) (fCons (fSl (fVar 1) (fPart (fOp opAdd (fVar 6) (fC (.int 1)))) fNoP) fNil)))
    (sSq (sSet (fOp opSub (fCl clMin (fCons (fVar 6) (fCons (fOp opSub (fOp opSub (fCl clLen (fCons (fVar 0) fNil)) (fVar 3)) (fC (.int 2))) fNil))) (fCl clMax (fCons (fC (.int 0)) (fCons (fOp opSub (fVar 5) (fC (.int 1))) fNil)))) (tN 9))
    (sSet (fOp opAdd (fOp opAdd (fVar 7) (fOp opRep (fLst (fCons (fC (.bool true)) fNil)) (fCl clMax (fCons (fC (.int 0)) (fCons (fVar 9) fNil))))) (fVar 8)) (tN 1)))))))))
noncomputable def b_law_run_lists : FS :=
  (sSq (sP2 1 2 (fCons (fOp opRep (fLst (fCons (fC (.bool false)) fNil)) (fCl clMax (fCons (fC (.int 0)) (fCons (fOp opSub (fCl clLen (fCons (fVar 0) fNil)) (fC (.int 1))) fNil)))) (fCons (fLstO fNil) fNil)))
  (sSq (sFr (iEn (fCons (fCall fn_law_marks false (fCons (fVar 0) fNil)) fNil)) ft_law_run_lists_1 fu_law_run_lists_1)
  (sRt (fVar 2))))
noncomputable def fn_law_run_lists : Fn := mkFn 10 b_law_run_lists
theorem enumD_zip {cs : List Int} {n : Nat} (h : cs.length = n) : enumD (zD cs) = ((List.range n).zip cs).map (fun (q : Nat × Int) => PyData.tuple [.int (q.1 : Int), .int q.2]) := by
  subst h
  unfold enumD zD
  refine List.ext_getElem (by rw [List.length_mapIdx, List.length_map, List.length_map, List.length_zip, List.length_range]; omega) fun i h1 h2 => ?_
  rw [List.getElem_mapIdx, List.getElem_map, List.getElem_map, List.getElem_zip, List.getElem_range]
theorem maxI {a b : Int} : (if b > a then b else a) = max a b := by split <;> omega
theorem minI' {a b : Int} : (if b < a then b else a) = min a b := by split <;> omega
theorem rep1 (n : Nat) (b : Bool) : (List.replicate n [PyData.bool b]).flatten = bD (List.replicate n b) := by
  induction n with
  | zero => rfl
  | succ n ih => rw [List.replicate_succ, List.flatten_cons, ih, List.replicate_succ]; rfl
theorem run_lists_ok {ns : List Int} {x : PyData} (hx : Sq x (zD ns)) (hl : ns.length < 1000) (hn : ns.Nodup) : fn_law_run_lists [.d x] [] = .ok (.newC (.lst (lsD (listsM ns)))) [] := by
  have rm := marks_ok hx hl
  have bd := codes_bd ns.length ns rfl hn
  have ee : enumD (zD (codesM ns)) = ((List.range ns.length).zip (codesM ns)).map (fun (q : Nat × Int) => PyData.tuple [.int (q.1 : Int), .int q.2]) := enumD_zip (codes_len ns)
  obtain ⟨g', e, here, found, a3, a4, a5, a6, a7, a8, a9, rfl, hp, hb, hf⟩ := forGo_inv (emb := fun (q : Nat × Int) => PyData.tuple [.int (q.1 : Int), .int q.2]) (t := ft_law_run_lists_1) (u := fu_law_run_lists_1) (xs := (List.range ns.length).zip (codesM ns)) (g := ⟨[some (.d x), some (.d (.list (bD (flg (iniR ns.length))))), some (.o 0), none, none, none, none, none, none, none], [.lst []]⟩)
    (fun i g => ∃ (here : List (Int × Int)) (found : List (List (Int × Int))) (a3 a4 a5 a6 a7 a8 a9 : Option R), g = ⟨[some (.d x), some (.d (.list (bD (flg here)))), some (.o 0), a3, a4, a5, a6, a7, a8, a9], [.lst (lsD found)]⟩ ∧ PartF 0 ((ns.length - i : Nat) : Int) here ∧ BdC (ns.length - i) ((codesM ns).drop i) ∧ found ++ goL here ((codesM ns).drop i) = listsM ns) ⟨iniR ns.length, [], none, none, none, none, none, none, none, rfl, iniR_part _, bd, rfl⟩ (fun i q g hq hI => by
      obtain ⟨here, found, a3, a4, a5, a6, a7, a8, a9, rfl, hp, hb, hf⟩ := hI
      have hi : i < ns.length := by
        have := (List.getElem?_eq_some_iff.mp hq).1
        rw [List.length_zip, List.length_range, codes_len] at this
        omega
      obtain ⟨q1, q2⟩ := q
      rw [List.getElem?_zip_eq_some] at hq
      have eq1 : q1 = i := by
        have := hq.1
        rw [List.getElem?_range hi] at this
        cases this; rfl
      have hc : (codesM ns)[i]? = some q2 := hq.2
      subst eq1
      have hd : (codesM ns).drop q1 = q2 :: (codesM ns).drop (q1 + 1) := by
        rw [List.drop_eq_getElem_cons (by rw [codes_len]; exact hi)]
        congr 1
        exact Option.some.inj ((List.getElem?_eq_getElem _).symm.trans hc)
      have lenf : found.length ≤ ns.length := by
        have z := congrArg List.length hf
        rw [List.length_append] at z
        unfold listsM at z
        rw [goL_len, goL_len, codes_len] at z
        omega
      obtain ⟨m, em⟩ : ∃ m, ns.length - q1 = m + 1 := ⟨ns.length - q1 - 1, by omega⟩
      rw [em, hd] at hb
      obtain ⟨c0, c1, hb⟩ := hb
      rw [em] at hp
      obtain ⟨c, rfl⟩ : ∃ c : Nat, q2 = c := ⟨q2.toNat, by omega⟩
      obtain ⟨A, p, B, ep, er, e2, e3, e4, e5, hA, hB⟩ := runA_in hp c0 (by omega)
      have hA0 := hA.le
      have hB0 := hB.le
      have np := nextR_part hp c0 (by omega)
      rw [show ((m + 1 : Nat) : Int) - 1 = (m : Int) by omega] at np
      have r1 := intervals_ok hp (by omega)
      have en : ((ns.length : Nat) : Int) - (q1 : Int) = ((m + 1 : Nat) : Int) := by omega
      have lf : (flg here).length = m := by rw [flg_len hp]; rfl
      have inn : ∀ j : Nat, p.1 ≤ j → (j : Int) < p.2 → atI (bD (flg here)) (j : Int) = some (.bool true) := fun j h1 h2 => by
        rw [atI_cast, List.getElem?_map, flg_at hp (by omega), ep, flC_in hA h1 h2]; rfl
      obtain ⟨P1, hP1⟩ : ∃ P : Nat, p.1 = P := ⟨p.1.toNat, by omega⟩
      obtain ⟨P2, hP2⟩ : ∃ P : Nat, p.2 = P := ⟨p.2.toNat, by omega⟩
      -- the left end
      obtain ⟨gl, el, hgl⟩ := sWh_inv0 (t := wt_law_run_lists_1) (u := wu_law_run_lists_1) (g := ⟨[some (.d x), some (.d (.list (bD (flg here)))), some (.o 0), some (.d (.int q1)), some (.d (.int c)), some (.d (.int c)), a6, a7, a8, a9], [.lst (lsD (found ++ [here]))]⟩)
        (fun m g => g = ⟨[some (.d x), some (.d (.list (bD (flg here)))), some (.o 0), some (.d (.int q1)), some (.d (.int c)), some (.d (.int m)), a6, a7, a8, a9], [.lst (lsD (found ++ [here]))]⟩ ∧ P1 ≤ m ∧ m ≤ c)
        (fun g => g = ⟨[some (.d x), some (.d (.list (bD (flg here)))), some (.o 0), some (.d (.int q1)), some (.d (.int c)), some (.d (.int P1)), a6, a7, a8, a9], [.lst (lsD (found ++ [here]))]⟩) c ⟨rfl, by omega, Nat.le_refl _⟩ (fun w g hI => by
          obtain ⟨rfl, h1, h2⟩ := hI
          by_cases q : w = P1
          · subst q
            left
            refine ⟨?_, rfl⟩
            by_cases z : (0 : Int) < (w : Int)
            · have hfl : (flg here)[w - 1]? = some false := by
                rw [flg_at hp (by omega), ep]
                exact flC_before hA (by omega)
              have hat : atI (bD (flg here)) ((w : Int) - 1) = some (.bool false) := by rw [show (w : Int) - 1 = ((w - 1 : Nat) : Int) by omega, atI_cast, List.getElem?_map, hfl]; rfl
              simp! [wt_law_run_lists_1, z, hat]
            · simp! [wt_law_run_lists_1, z]
          · right
            have hat : atI (bD (flg here)) ((w : Int) - 1) = some (.bool true) := by rw [show (w : Int) - 1 = ((w - 1 : Nat) : Int) by omega]; exact inn (w - 1) (by omega) (by omega)
            refine ⟨⟨[some (.d x), some (.d (.list (bD (flg here)))), some (.o 0), some (.d (.int q1)), some (.d (.int c)), some (.d (.int ((w - 1 : Nat) : Int))), a6, a7, a8, a9], [.lst (lsD (found ++ [here]))]⟩, w - 1, ?_, ?_, by omega, rfl, by omega, by omega⟩
            · simp! [wt_law_run_lists_1, show (0 : Int) < (w : Int) by omega, hat]
            · simp! [wu_law_run_lists_1, show (w : Int) - 1 = ((w - 1 : Nat) : Int) by omega])
      subst hgl
      obtain ⟨gh, eh, hgh⟩ := sWh_inv0 (t := wt_law_run_lists_2) (u := wu_law_run_lists_2) (g := ⟨[some (.d x), some (.d (.list (bD (flg here)))), some (.o 0), some (.d (.int q1)), some (.d (.int c)), some (.d (.int P1)), some (.d (.int c)), a7, a8, a9], [.lst (lsD (found ++ [here]))]⟩)
        (fun m g => ∃ w : Nat, m + w = P2 ∧ g = ⟨[some (.d x), some (.d (.list (bD (flg here)))), some (.o 0), some (.d (.int q1)), some (.d (.int c)), some (.d (.int P1)), some (.d (.int w)), a7, a8, a9], [.lst (lsD (found ++ [here]))]⟩ ∧ c ≤ w)
        (fun g => g = ⟨[some (.d x), some (.d (.list (bD (flg here)))), some (.o 0), some (.d (.int q1)), some (.d (.int c)), some (.d (.int P1)), some (.d (.int P2)), a7, a8, a9], [.lst (lsD (found ++ [here]))]⟩) (P2 - c) ⟨c, by omega, rfl, Nat.le_refl _⟩ (fun k g hI => by
          obtain ⟨w, h1, rfl, h2⟩ := hI
          by_cases q : w = P2
          · subst q
            left
            refine ⟨?_, rfl⟩
            by_cases z : (w : Int) < (m : Int)
            · have hfl : (flg here)[w]? = some false := by
                rw [flg_at hp (by omega), ep]
                exact flC_end hA (by omega) (by omega)
              have hat : atI (bD (flg here)) (w : Int) = some (.bool false) := by rw [atI_cast, List.getElem?_map, hfl]; rfl
              simp! [wt_law_run_lists_2, lf, z, hat]
            · simp! [wt_law_run_lists_2, lf, z]
          · right
            have hat := inn w (by omega) (by omega)
            refine ⟨⟨[some (.d x), some (.d (.list (bD (flg here)))), some (.o 0), some (.d (.int q1)), some (.d (.int c)), some (.d (.int P1)), some (.d (.int ((w + 1 : Nat) : Int))), a7, a8, a9], [.lst (lsD (found ++ [here]))]⟩, k - 1, ?_, ?_, by omega, w + 1, by omega, rfl, by omega⟩
            · simp! [wt_law_run_lists_2, lf, show (w : Int) < (m : Int) by omega, hat]
            · simp! [wu_law_run_lists_2, show (w : Int) + 1 = ((w + 1 : Nat) : Int) by omega])
      subst hgh
      have fn := flg_next (n := m + 1) hA (by omega) hB
      have enx : nextP (A ++ p :: B) A.length = nextR here (c : Int) := by unfold nextR; rw [e3, ep]
      rw [enx, ← ep] at fn
      have ct1 : cut (bD (flg here)) none (some (max 0 ((P1 : Int) - 1))) = bD ((flg here).take (p.1 - 1).toNat) := by
        rw [show max 0 ((P1 : Int) - 1) = (((p.1 - 1).toNat : Nat) : Int) by omega, cut_to]
        exact List.map_take.symm
      have ct2 : cut (bD (flg here)) (some ((P2 : Int) + 1)) none = bD ((flg here).drop (p.2 + 1).toNat) := by
        rw [show (P2 : Int) + 1 = (((p.2 + 1).toNat : Nat) : Int) by omega, cut_from]
        exact List.map_drop.symm
      have wb : (min p.2 (((m + 1 : Nat) : Int) - 2) - max 0 (p.1 - 1)).toNat < 1000 := by omega
      have ew : max 0 (min (P2 : Int) (((m + 1 : Nat) : Int) - 2) - max 0 ((P1 : Int) - 1)) = (((min p.2 (((m + 1 : Nat) : Int) - 2) - max 0 (p.1 - 1)).toNat : Nat) : Int) := by omega
      obtain ⟨W, eW⟩ : ∃ W, (min p.2 (((m + 1 : Nat) : Int) - 2) - max 0 (p.1 - 1)).toNat = W := ⟨_, rfl⟩
      rw [eW] at fn ew wb
      obtain ⟨T1, eT1⟩ : ∃ T, (flg here).take (p.1 - 1).toNat = T := ⟨_, rfl⟩
      obtain ⟨T2, eT2⟩ : ∃ T, (flg here).drop (p.2 + 1).toNat = T := ⟨_, rfl⟩
      have lT1 : T1.length ≤ m := by rw [← eT1, List.length_take]; omega
      have lT2 : T2.length ≤ m := by rw [← eT2, List.length_drop]; omega
      rw [eT1, eT2] at fn
      rw [eT1] at ct1
      rw [eT2] at ct2
      have fD : bD T1 ++ bD (List.replicate W true) ++ bD T2 = bD (flg (nextR here (c : Int))) := by rw [← fn]; unfold bD; rw [List.map_append, List.map_append]
      refine ⟨⟨[some (.d x), some (.d (.list (bD (flg (nextR here (c : Int)))))), some (.o 0), some (.d (.int q1)), some (.d (.int c)), some (.d (.int P1)), some (.d (.int P2)), some (.d (.list (bD T1))), some (.d (.list (bD T2))), some (.d (.int (min (P2 : Int) (((m + 1 : Nat) : Int) - 2) - max 0 ((P1 : Int) - 1))))], [.lst (lsD (found ++ [here]))]⟩, .inl ?_, nextR here (c : Int), found ++ [here], _, _, _, _, _, _, _, rfl, ?_, ?_, ?_⟩
      · have k1 : 1 * W ≤ 100000 := by omega
        have k2 : T1.length + W ≤ 100000 := by omega
        have k3 : (bD T1 ++ bD (List.replicate W true)).length + T2.length ≤ 100000 := by rw [List.length_append, List.length_map, List.length_map, List.length_replicate]; omega
        have el' : lsD (found ++ [here]) = lsD found ++ [PyData.list (psD here)] := by unfold lsD; rw [List.map_append]; rfl
        rw [el'] at el eh ⊢
        have hW : -4611686018427387904 ≤ (W : Int) ∧ (W : Int) < 4611686018427387904 := ⟨by omega, by omega⟩
        rcases hx with rfl | rfl <;> simp! [ft_law_run_lists_1, fu_law_run_lists_1, en, call_lst r1, show found.length < 100000 by omega, el, eh, maxI, minI', ct1, ct2, ew, Int.toNat_natCast, k1, hW.1, hW.2, rep1, cat2, List.length_replicate, k2, k3, fD, Int.reduceNeg]
      · rw [show ns.length - (q1 + 1) = m by omega]; exact np
      · rw [show ns.length - (q1 + 1) = m by omega]; exact hb
      · rw [← hf, hd, List.append_assoc]; rfl)
  have lz : ((List.range ns.length).zip (codesM ns)).length = ns.length := by rw [List.length_zip, List.length_range, codes_len]; omega
  rw [lz, List.drop_of_length_le (by rw [codes_len]; exact Nat.le_refl _)] at hf
  have ef : found = listsM ns := by rw [← hf]; show found = found ++ []; rw [List.append_nil]
  subst ef
  rw [← ee] at e
  have ei : (List.replicate (max 0 (((ns.length : Nat) : Int) - 1)).toNat [PyData.bool false]).flatten = bD (flg (iniR ns.length)) := by
    rw [rep1, flg_ini, show (max 0 (((ns.length : Nat) : Int) - 1)).toNat = ns.length - 1 by omega]
  have k1 : 1 * (max 0 (((ns.length : Nat) : Int) - 1)).toNat ≤ 100000 := by omega
  have h1 : -4611686018427387904 ≤ max 0 (((ns.length : Nat) : Int) - 1) := by omega
  have h2 : max 0 (((ns.length : Nat) : Int) - 1) < 4611686018427387904 := by omega
  rcases hx with rfl | rfl <;> simp! [fn_law_run_lists, b_law_run_lists, maxI, k1, h1, h2, ei, call_of rm, e, Nat.zero_le, Int.reduceNeg]
end DL
set_option Elab.async false
set_option linter.all false
set_option maxRecDepth 100000
set_option maxHeartbeats 1000000
set_option autoImplicit false
namespace DL
open PySem PySem.Spec PyProof.Rows L2
noncomputable def ct_law_runs_1 : FG := (tN 4)
noncomputable def cc_law_runs_1 : FT := (fTst (fChain opLe opLe (fOp opIx (fVar 4) (fC (.int 0))) (fVar 3) (fOp opIx (fVar 4) (fC (.int 1)))))
noncomputable def cf_law_runs_1 : FE := (fVar 4)
noncomputable def ft_law_runs_1 : FG := (tTupA 2 (tCons (tN 2) (tCons (tN 3) tNil)))
noncomputable def fu_law_runs_1 : FS := (sEx (fMt mtAppend (fVar 1) (fCons (fOp opIx (fLc (iSeq (fVar 2)) ct_law_runs_1 cc_law_runs_1 cf_law_runs_1 [4]) (fC (.int 0))) fNil)))
noncomputable def b_law_runs : FS :=
  (sSq (sSet (fLstO fNil) (tN 1))
  (sSq (sFr (iZ2 (fCons (fCall fn_law_run_lists false (fCons (fVar 0) fNil)) (fCons (fCall fn_law_marks false (fCons (fVar 0) fNil)) fNil))) ft_law_runs_1 fu_law_runs_1)
  (sRt (fCl clTuple (fCons (fVar 1) fNil)))))
noncomputable def fn_law_runs : Fn := mkFn 5 b_law_runs
theorem pD_ix0 (p : Int × Int) : atI [PyData.int p.1, PyData.int p.2] 0 = some (.int p.1) := by rw [atI_0]; rfl
theorem pD_ix1 (p : Int × Int) : atI [PyData.int p.1, PyData.int p.2] 1 = some (.int p.2) := by rw [atI_1]; rfl
theorem lruns_ok {ns : List Int} {x : PyData} (hx : Sq x (zD ns)) (hl : ns.length < 1000) (hn : ns.Nodup) : fn_law_runs [.d x] [] = .ok (.dat (.tuple (psD (runsM ns)))) [] := by
  have r1 := run_lists_ok hx hl hn
  have r2 := marks_ok hx hl
  have ll : (listsM ns).length = ns.length := by unfold listsM; rw [goL_len, codes_len]
  have bd := codes_bd ns.length ns rfl hn
  have gen : ∀ (cs : List Int) (here : List (Int × Int)) (n : Nat), n < 1000 → PartF 0 n here → BdC n cs → (∀ q ∈ (goL here cs).zip cs, q.1.length < 1000 ∧ (q.1.filter (inRn q.2)).head? = some (runA q.1 q.2)) ∧ ((goL here cs).zip cs).map (fun q => runA q.1 q.2) = goR here cs := by
    intro cs
    induction cs with
    | nil => intro here n _ _ _; exact ⟨fun q hq => (by simp [goL] at hq), rfl⟩
    | cons c t ih =>
      intro here n hn1 hp hb
      cases n with
      | zero => exact absurd hb (by intro z; cases z)
      | succ n =>
        obtain ⟨b1, b2, b3⟩ := hb
        have np := nextR_part hp b1 (by omega)
        rw [show ((n + 1 : Nat) : Int) - 1 = (n : Int) by omega] at np
        obtain ⟨i1, i2⟩ := ih (nextR here c) n (by omega) np b3
        refine ⟨fun q hq => ?_, ?_⟩
        · have hq : q ∈ (here, c) :: (goL (nextR here c) t).zip t := hq
          rcases List.mem_cons.mp hq with z | z
          · subst z
            obtain ⟨A, p, B, _, e1, e2, _⟩ := runA_in hp b1 (by omega)
            have z := part_len _ _ _ hp
            exact ⟨by show here.length < 1000; omega, by rw [e1]; exact e2⟩
          · exact i1 q z
        · show runA here c :: _ = runA here c :: _
          rw [← i2]
          rfl
  obtain ⟨g1, g2⟩ := gen (codesM ns) (iniR ns.length) ns.length hl (iniR_part _) bd
  have ez : zip2 (lsD (listsM ns)) (zD (codesM ns)) = ((listsM ns).zip (codesM ns)).map (fun q => PyData.tuple [.list (psD q.1), .int q.2]) := zip2_map _ _ _ _
  have er : ((listsM ns).zip (codesM ns)).map (fun q => runA q.1 q.2) = runsM ns := by unfold runsM runsC listsM; rw [codes_len]; exact g2
  obtain ⟨g', e, a, b, rfl⟩ := forGo_inv (emb := fun (q : List (Int × Int) × Int) => PyData.tuple [.list (psD q.1), .int q.2]) (t := ft_law_runs_1) (u := fu_law_runs_1) (xs := (listsM ns).zip (codesM ns)) (g := ⟨[some (.d x), some (.o 0), none, none, none], [.lst []]⟩)
    (fun i g => ∃ a b, g = ⟨[some (.d x), some (.o 0), a, b, none], [.lst (psD ((((listsM ns).zip (codesM ns)).take i).map (fun q => runA q.1 q.2)))]⟩) ⟨none, none, rfl⟩ (fun i q g hq hI => by
      obtain ⟨a, b, rfl⟩ := hI
      obtain ⟨z1, z2⟩ := g1 q (List.mem_of_getElem? hq)
      have s := lcGo_pure (emb := pD) (t := ct_law_runs_1) (c := cc_law_runs_1) (f := cf_law_runs_1) (sl := [some (.d x), some (.o 0), some (.d (.list (psD q.1))), some (.d (.int q.2)), none]) (ws := [4]) (ce := [.lst (psD ((((listsM ns).zip (codesM ns)).take i).map (fun q => runA q.1 q.2)))]) (inRn q.2) pD q.1 [] (by simp; omega) (fun p _ => by
        unfold inRn
        by_cases h1 : p.1 ≤ q.2
        · by_cases h2 : q.2 ≤ p.2
          · simp! [lcSt, ct_law_runs_1, cc_law_runs_1, cf_law_runs_1, pD, pD_ix0, pD_ix1, h1, h2]
          · simp! [lcSt, ct_law_runs_1, cc_law_runs_1, cf_law_runs_1, pD, pD_ix0, pD_ix1, h1, h2]
        · simp! [lcSt, ct_law_runs_1, cc_law_runs_1, cf_law_runs_1, pD, pD_ix0, pD_ix1, h1])
      rw [List.nil_append] at s
      have hat : (psD (q.1.filter (inRn q.2)))[0]? = some (pD (runA q.1 q.2)) := by
        unfold psD
        rw [List.getElem?_map, ← List.head?_eq_getElem?, z2]
        rfl
      have len : (((listsM ns).zip (codesM ns)).take i).length < 100000 := by rw [List.length_take, List.length_zip]; omega
      have e1 : psD ((((listsM ns).zip (codesM ns)).take (i + 1)).map (fun q => runA q.1 q.2)) = psD ((((listsM ns).zip (codesM ns)).take i).map (fun q => runA q.1 q.2)) ++ [pD (runA q.1 q.2)] := by
        rw [List.take_add_one, hq]
        unfold psD
        rw [List.map_append, List.map_append]
        rfl
      refine ⟨⟨[some (.d x), some (.o 0), some (.d (.list (psD q.1))), some (.d (.int q.2)), none], [.lst (psD ((((listsM ns).zip (codesM ns)).take (i + 1)).map (fun q => runA q.1 q.2)))]⟩, .inl ?_, _, _, rfl⟩
      rw [e1]
      simp! [ft_law_runs_1, fu_law_runs_1, s, atI_0, hat, len])
  rw [List.take_length, er, ← ez] at e
  simp! [fn_law_runs, b_law_runs, call_lst r1, call_of r2, ll, codes_len, e]
end DL
set_option Elab.async false
set_option linter.all false
set_option maxRecDepth 100000
set_option maxHeartbeats 1000000
set_option autoImplicit false
namespace DL
open PySem PySem.Spec PyProof.Rows L2
noncomputable def ct_law_orders_1 : FG := (tN 5)
noncomputable def cc_law_orders_1 : FT := (fTst (fOp opNotIn (fVar 5) (fVar 4)))
noncomputable def cf_law_orders_1 : FE := (fOp opAdd (fVar 4) (fTup (fCons (fVar 5) fNil)))
noncomputable def ft_law_orders_2 : FG := (tN 4)
noncomputable def fu_law_orders_2 : FS := (sSet (fOp opAdd (fVar 3) (fLc (iSeq (fVar 0)) ct_law_orders_1 cc_law_orders_1 cf_law_orders_1 [5])) (tN 3))
noncomputable def ft_law_orders_1 : FG := (tN 2)
noncomputable def fu_law_orders_1 : FS := (sSq (sSet (fLst fNil) (tN 3))
    (sSq (sFr (iSeq (fVar 1)) ft_law_orders_2 fu_law_orders_2)
    (sSet (fVar 3) (tN 1))))
noncomputable def b_law_orders : FS :=
  (sSq (sSet (fLst (fCons (fTup fNil) fNil)) (tN 1))
  (sSq (sFr (iRg1 (fCons (fCl clLen (fCons (fVar 0) fNil)) fNil)) ft_law_orders_1 fu_law_orders_1)
  (sRt (fVar 1))))
noncomputable def fn_law_orders : Fn := mkFn 6 b_law_orders
def ordF (l part : List Int) : List (List Int) := (l.filter fun z => decide (z ∉ part)).map fun z => part ++ [z]
theorem ordF_len (l part : List Int) : (ordF l part).length ≤ l.length := by
  unfold ordF
  rw [List.length_map]
  exact List.length_filter_le _ _
theorem ord_in {l : List Int} (hl : l.Pairwise (· < ·)) (h10 : l.length ≤ 10) (a1 a2 : Option R) : ∀ (pts acc : List (List Int)) (a4 : Option R), acc.length + 10 * pts.length ≤ 10000 → (∀ p ∈ pts, p.length ≤ 100) →
    ∃ b4, forGo ft_law_orders_2 fu_law_orders_2 (pts.map tupD) ⟨[some (.d (.list (zD l))), a1, a2, some (.d (.list (acc.map tupD))), a4, none], []⟩ = .ok .nx ⟨[some (.d (.list (zD l))), a1, a2, some (.d (.list ((acc ++ pts.flatMap (ordF l)).map tupD))), b4, none], []⟩
  | [], acc, a4, h, hp => ⟨a4, by
    rw [List.flatMap_nil, List.append_nil]
    rfl⟩
  | p :: pts, acc, a4, h, hp => by
    have lp := hp p List.mem_cons_self
    rw [List.length_cons] at h
    have lf := ordF_len l p
    obtain ⟨b4, ih⟩ := ord_in hl h10 a1 a2 pts (acc ++ ordF l p) (some (.d (tupD p))) (by rw [List.length_append]; omega) fun q hq => hp q (List.mem_cons_of_mem _ hq)
    refine ⟨b4, ?_⟩
    have so : asInts (zD l) = some l := asInts_map l
    have sr := srt_of hl
    have s2 := lcGo_pure (emb := PyData.int) (t := ct_law_orders_1) (c := cc_law_orders_1) (f := cf_law_orders_1) (sl := [some (.d (.list (zD l))), a1, a2, some (.d (.list (acc.map tupD))), some (.d (.tuple (zD p))), none]) (ws := [5]) (ce := []) (fun z => decide (z ∉ p)) (fun z => tupD (p ++ [z])) l [] (by rw [List.length_nil]; omega) (fun z _ => by
      have ei : ∀ g, inB g (.d (.int z)) (.d (.tuple (zD p))) = some (decide (z ∈ p)) := fun g => inB_sq sqT g
      have et : tupD (p ++ [z]) = .tuple (zD p ++ [.int z]) := by unfold tupD zD; rw [List.map_append]; rfl
      have lz : p.length + 1 ≤ 100000 := by omega
      rw [et]
      by_cases q : z ∈ p <;> simp! [lcSt, ct_law_orders_1, cc_law_orders_1, cf_law_orders_1, ei, q, lz, not_true_eq_false, not_false_eq_true])
    have em : (l.filter fun z => decide (z ∉ p)).map (fun z => tupD (p ++ [z])) = (ordF l p).map tupD := by unfold ordF; rw [List.map_map]; rfl
    rw [List.nil_append, em] at s2
    have lc : acc.length + (ordF l p).length ≤ 100000 := by omega
    have st : forSt ft_law_orders_2 fu_law_orders_2 (tupD p) ⟨[some (.d (.list (zD l))), a1, a2, some (.d (.list (acc.map tupD))), a4, none], []⟩ = .ok .nx ⟨[some (.d (.list (zD l))), a1, a2, some (.d (.list ((acc ++ ordF l p).map tupD))), some (.d (tupD p)), none], []⟩ := by
      rw [List.map_append]
      unfold tupD at s2 ⊢
      simp! [ft_law_orders_2, fu_law_orders_2, so, sr, s2, cat2, lc]
    rw [List.map_cons, forGo_cons, st, bind_ok, ih, List.flatMap_cons, List.append_assoc]
theorem ord_sizes : (List.range 6).all (fun n => (List.range 6).all fun k => decide ((ordGo (oneT n) k).length ≤ 120)) = true := by decide +kernel
theorem ord_lens {l : List Int} {k : Nat} : ∀ z ∈ ordGo l k, z.length = k := fun z hz => (ord_mem.mp hz).2.1
theorem orders_ok {n : Nat} (hn : n ≤ 5) : fn_law_orders [.d (.list (zD (oneT n)))] [] = .ok (.dat (.list ((ordGo (oneT n) n).map tupD))) [] := by
  have sz : ∀ k, k ≤ 5 → (ordGo (oneT n) k).length ≤ 120 := fun k hk => of_decide_eq_true (List.all_eq_true.mp (List.all_eq_true.mp ord_sizes n (List.mem_range.mpr (by omega))) k (List.mem_range.mpr (by omega)))
  have ln := oneT_len n
  obtain ⟨g', e, b2, b3, b4, rfl⟩ := forGo_inv (emb := fun (i : Nat) => PyData.int (i : Int)) (t := ft_law_orders_1) (u := fu_law_orders_1) (xs := List.range n) (g := ⟨[some (.d (.list (zD (oneT n)))), some (.d (.list [.tuple []])), none, none, none, none], []⟩)
    (fun i g => ∃ b2 b3 b4, g = ⟨[some (.d (.list (zD (oneT n)))), some (.d (.list ((ordGo (oneT n) i).map tupD))), b2, b3, b4, none], []⟩) ⟨none, none, none, rfl⟩ (fun i z g hz hI => by
      obtain ⟨b2, b3, b4, rfl⟩ := hI
      have hi : i < n := by
        have := (List.getElem?_eq_some_iff.mp hz).1
        simpa using this
      have s1 := sz i (by omega)
      obtain ⟨c4, ee⟩ := ord_in (oneT_asc n) (by omega) (some (.d (.list ((ordGo (oneT n) i).map tupD)))) (some (.d (.int (z : Int)))) (ordGo (oneT n) i) [] b4 (by rw [List.length_nil]; omega) fun p hp => by rw [ord_lens p hp]; omega
      have ee : forGo ft_law_orders_2 fu_law_orders_2 ((ordGo (oneT n) i).map tupD) ⟨[some (.d (.list (zD (oneT n)))), some (.d (.list ((ordGo (oneT n) i).map tupD))), some (.d (.int (z : Int))), some (.d (.list [])), b4, none], []⟩ = .ok .nx ⟨[some (.d (.list (zD (oneT n)))), some (.d (.list ((ordGo (oneT n) i).map tupD))), some (.d (.int (z : Int))), some (.d (.list ((ordGo (oneT n) (i + 1)).map tupD))), c4, none], []⟩ := ee
      refine ⟨_, .inl ?_, some (.d (.int (z : Int))), some (.d (.list ((ordGo (oneT n) (i + 1)).map tupD))), c4, rfl⟩
      obtain ⟨W, eW⟩ : ∃ W, (ordGo (oneT n) i).map tupD = W := ⟨_, rfl⟩
      rw [eW] at ee ⊢
      simp! [ft_law_orders_1, fu_law_orders_1, ee])
  rw [← rng0, List.length_range] at e
  have rk : rOk (n : Int) = true := rOk_of (by omega) (by omega)
  simp! [fn_law_orders, b_law_orders, ln, rk, Int.toNat_natCast, e]
noncomputable def b_law_widths : FS :=
  (sSq (sP2 2 3 (fCons (fCl clMax (fCons (fC (.int 0)) (fCons (fOp opSub (fVar 1) (fC (.int 1))) fNil))) (fCons (fCl clMin (fCons (fOp opSub (fCl clLen (fCons (fVar 0) fNil)) (fC (.int 1))) (fCons (fOp opAdd (fVar 1) (fC (.int 1))) fNil))) fNil)))
  (sSq (sSet (fOp opSub (fCl clSumT (fCons (fSl (fVar 0) (fPart (fVar 2)) (fPart (fOp opAdd (fVar 3) (fC (.int 1))))) fNil)) (fC (.int 1))) (tN 4))
  (sRt (fOp opAdd (fOp opAdd (fSl (fVar 0) fNoP (fPart (fVar 2))) (fOp opRepZ (fTup (fCons (fVar 4) fNil)) (fCl clInt (fCons (fOp opGt (fVar 4) (fC (.int 0))) fNil)))) (fSl (fVar 0) (fPart (fOp opAdd (fVar 3) (fC (.int 1)))) fNoP)))))
noncomputable def fn_law_widths : Fn := mkFn 5 b_law_widths
theorem cut_mid {α : Type} (xs : List α) {a b : Nat} (hab : a ≤ b) (hb : b ≤ xs.length) : cut xs (some (a : Int)) (some (b : Int)) = (xs.drop a).take (b - a) := by
  unfold cut
  rw [HT.sIx_nat, HT.sIx_nat, Nat.min_eq_left (Nat.le_trans hab hb), Nat.min_eq_left hb]
/-- lengths of runs after a person of the run at k has gone -/
def widM (ws : List Int) (k : Nat) : List Int :=
  ws.take (k - 1) ++ (if 0 < ((ws.drop (k - 1)).take (min (ws.length - 1) (k + 1) + 1 - (k - 1))).sum - 1 then [((ws.drop (k - 1)).take (min (ws.length - 1) (k + 1) + 1 - (k - 1))).sum - 1] else []) ++ ws.drop (min (ws.length - 1) (k + 1) + 1)
theorem widths_ok {ws : List Int} {k : Nat} (hk : k < ws.length) (hw : ws.length ≤ 1000) : fn_law_widths [.d (.tuple (zD ws)), .d (.int k)] [] = .ok (.dat (.tuple (zD (widM ws k)))) [] := by
  obtain ⟨lo, elo⟩ : ∃ lo, k - 1 = lo := ⟨_, rfl⟩
  obtain ⟨hi, ehi⟩ : ∃ hi, min (ws.length - 1) (k + 1) = hi := ⟨_, rfl⟩
  obtain ⟨u, eu⟩ : ∃ u, ((ws.drop lo).take (hi + 1 - lo)).sum - 1 = u := ⟨_, rfl⟩
  have en : widM ws k = ws.take lo ++ (if 0 < u then [u] else []) ++ ws.drop (hi + 1) := by unfold widM; rw [elo, ehi, eu]
  have mx : (if (k : Int) - 1 > 0 then (k : Int) - 1 else 0) = (lo : Int) := by split <;> omega
  have mn : (if (k : Int) + 1 < ((ws.length : Nat) : Int) - 1 then (k : Int) + 1 else ((ws.length : Nat) : Int) - 1) = (hi : Int) := by split <;> omega
  have lz : (zD ws).length = ws.length := List.length_map ..
  have c1 : cut (zD ws) (some (lo : Int)) (some ((hi : Int) + 1)) = zD ((ws.drop lo).take (hi + 1 - lo)) := by
    have := cut_mid (zD ws) (a := lo) (b := hi + 1) (by omega) (by rw [lz]; omega)
    rw [show ((hi + 1 : Nat) : Int) = (hi : Int) + 1 by omega] at this
    rw [this]
    unfold zD
    rw [List.map_take, List.map_drop]
  have c2 := cutZ_to ws lo
  have c3 : cut (zD ws) (some ((hi : Int) + 1)) none = zD (ws.drop (hi + 1)) := by
    have := cutZ_from ws (hi + 1)
    rwa [show ((hi + 1 : Nat) : Int) = (hi : Int) + 1 by omega] at this
  have sm := fun (g : G) => clSumT_of g ((ws.drop lo).take (hi + 1 - lo))
  rw [en]
  have hw1 : (ws.take lo).length ≤ 1000 := by rw [List.length_take]; omega
  have hw2 : (ws.drop (hi + 1)).length ≤ 1000 := by rw [List.length_drop]; omega
  by_cases hu : 0 < u
  · rw [if_pos hu]
    have rz : ∀ g : G, opRepZ g (.d (.tuple [.int u])) (.d (.int 1)) = some (.d (.tuple (zD [u]))) := fun g => by
      rw [opRepZ_ap, if_pos ⟨by decide, by decide, by decide⟩]
      rfl
    have l1 : (ws.take lo).length ≤ 99999 := by omega
    have l2 : (ws.take lo).length + 1 + (ws.drop (hi + 1)).length ≤ 100000 := by omega
    have ez : zD (ws.take lo) ++ [PyData.int u] ++ zD (ws.drop (hi + 1)) = zD (ws.take lo ++ [u] ++ ws.drop (hi + 1)) := by rw [← zD_app, ← zD_app]; rfl
    have ez2 : zD (ws.take lo) ++ PyData.int u :: zD (ws.drop (hi + 1)) = zD (ws.take lo ++ [u] ++ ws.drop (hi + 1)) := by rw [← ez, List.append_assoc]; rfl
    have l3 : (zD (ws.take lo) ++ [PyData.int u]).length + (ws.drop (hi + 1)).length ≤ 100000 := by rw [List.length_append, List.length_map]; simp only [List.length_cons, List.length_nil]; omega
    simp! only [fn_law_widths, b_law_widths, mx, mn, c1, c2, c3, sm, eu, hu, rz, l1, l2, l3, ez, ez2, List.append_assoc, List.singleton_append, List.cons_append, List.nil_append]
  · rw [if_neg hu]
    have rz : ∀ g : G, opRepZ g (.d (.tuple [.int u])) (.d (.int 0)) = some (.d (.tuple (zD []))) := fun g => by
      rw [opRepZ_ap, if_pos ⟨by decide, by decide, by decide⟩]
      rfl
    have l1 : (ws.take lo).length ≤ 100000 := by omega
    have l2 : (ws.take lo).length + (ws.drop (hi + 1)).length ≤ 100000 := by omega
    have ez : zD (ws.take lo) ++ zD (ws.drop (hi + 1)) = zD (ws.take lo ++ ws.drop (hi + 1)) := by rw [← zD_app]
    have e0 : zD ([] : List Int) = [] := rfl
    simp! only [fn_law_widths, b_law_widths, mx, mn, c1, c2, c3, sm, eu, hu, rz, l1, l2, ez, e0, List.append_nil, Nat.add_zero, List.length_nil]
end DL
set_option Elab.async false
set_option linter.all false
set_option maxRecDepth 100000
set_option maxHeartbeats 1000000
set_option autoImplicit false
namespace DL
open PySem PySem.Spec PyProof.Rows L2
noncomputable def ft_law_walked_3 : FG := (tTupA 2 (tCons (tN 6) (tCons (tN 7) tNil)))
noncomputable def fu_law_walked_3 : FS := (sSq (sSet (fTup (fCons (fCall fn_law_widths false (fCons (fVar 4) (fCons (fVar 6) fNil))) (fCons (fOp opMul (fVar 5) (fVar 7)) fNil))) (tN 8))
        (sPutN (fVar 3) (fVar 8) (fOp opAdd (fGetN (fVar 3) (fVar 8) (fC (.int 0))) (fIxN (fVar 1) (fTup (fCons (fVar 4) (fCons (fVar 5) fNil)))))))
noncomputable def ft_law_walked_2 : FG := (tTupA 2 (tCons (tN 4) (tCons (tN 5) tNil)))
noncomputable def fu_law_walked_2 : FS := (sFr (iEn (fCons (fVar 4) fNil)) ft_law_walked_3 fu_law_walked_3)
noncomputable def ft_law_walked_1 : FG := (tN 2)
noncomputable def fu_law_walked_1 : FS := (sSq (sSet fDict0N (tN 3))
    (sSq (sFr (iKyD (fFrzD 1)) ft_law_walked_2 fu_law_walked_2)
    (sSet (fVar 3) (tN 1))))
noncomputable def ft_law_walked_4 : FG := (tTupA 2 (tCons (tN 4) (tCons (tN 5) tNil)))
noncomputable def fu_law_walked_4 : FS := (sPut (fVar 9) (fVar 5) (fOp opAdd (fGetK (fVar 9) (fVar 5) (fC (.int 0))) (fIxN (fVar 1) (fTup (fCons (fVar 4) (fCons (fVar 5) fNil))))))
noncomputable def b_law_walked : FS :=
  (sSq (sSet (fDisp1N (fTup (fCons (fOp opRepZ (fTup (fCons (fC (.int 1)) fNil)) (fVar 0)) (fCons (fC (.int 1)) fNil))) (fC (.int 1))) (tN 1))
  (sSq (sFr (iRg1 (fCons (fVar 0) fNil)) ft_law_walked_1 fu_law_walked_1)
  (sSq (sSet fDict0 (tN 9))
  (sSq (sFr (iKyD (fFrzD 1)) ft_law_walked_4 fu_law_walked_4)
  (sRt (fSortIt (fFrzD 9)))))))
noncomputable def fn_law_walked : Fn := mkFn 10 b_law_walked
abbrev WdK := List Int × Int
abbrev WdA := List (WdK × Int)
def addW (A : WdA) (k : WdK) (w : Int) : WdA := putG A k ((getG A k).getD 0 + w)
def wqL (ws : List Int) : List (Nat × Int) := (List.range ws.length).zip ws
def inW (e : WdK × Int) (v : Int) (L : WdA) (qs : List (Nat × Int)) : WdA := qs.foldl (fun L q => addW L (widM e.1.1 q.1, e.1.2 * q.2) v) L
def midW (A L : WdA) (es : WdA) : WdA := es.foldl (fun L e => inW e ((getG A e.1).getD 0) L (wqL e.1.1)) L
def stW (n : Nat) : Nat → WdA
  | 0 => [((List.replicate n 1, 1), 1)]
  | t + 1 => midW (stW n t) [] (stW n t)
def finW (A : WdA) (es : WdA) : LzI := es.foldl (fun L e => addI L e.1.2 ((getG A e.1).getD 0)) []
def okV (e : WdK × Int) : Bool := decide (e.1.1.length < 1000) && e.1.1.all fun p => decide (-1000000 < p) && decide (p < 1000000)
def okW (A : WdA) : Bool := decide (A.length < 90) && A.all okV
abbrev embW (A : WdA) : List (NestedKey × PyData) := embG nkW PyData.int A
theorem addW_len (A : WdA) (k : WdK) (w : Int) : (addW A k w).length ≤ A.length + 1 := putG_len _ _ _
theorem inW_len (e : WdK × Int) (v : Int) (L : WdA) (qs : List (Nat × Int)) : (inW e v L qs).length ≤ L.length + qs.length := by
  have := foldl_len (fun (L : WdA) (q : Nat × Int) => addW L (widM e.1.1 q.1, e.1.2 * q.2) v) (fun _ => 1) (fun L b => addW_len _ _ _) qs L
  rw [List.map_const', List.sum_replicate_nat] at this
  unfold inW
  omega
theorem getG_mem {K W : Type} [DecidableEq K] {A : List (K × W)} {e : K × W} (h : e ∈ A) : ∃ v, getG A e.1 = some v := by
  unfold getG
  cases hf : A.find? (fun z => decide (z.1 = e.1)) with
  | none =>
    rw [List.find?_eq_none] at hf
    exact absurd (decide_eq_true rfl) (hf e h)
  | some z => exact ⟨z.2, rfl⟩
theorem keys_W (A : WdA) : (embW A).map (fun kv => kv.1.data) = A.map fun e => PyData.tuple [.tuple (zD e.1.1), .int e.1.2] := by
  unfold embW embG
  rw [List.map_map]
  exact List.map_congr_left fun e _ => data_W e.1
theorem wq_emb (ws : List Int) : enumD (zD ws) = (wqL ws).map fun (q : Nat × Int) => PyData.tuple [.int (q.1 : Int), .int q.2] := enumD_zip rfl
theorem wk_in {s0 s2 d : Option R} {tl : List Ct} {A : WdA} {e : WdK × Int} {v : Int} {L : WdA} {a b c : Option R} (hv : getG A e.1 = some v) (he : okV e = true) (hl : L.length + 1000 < 100000) :
    ∃ a' b' c', forGo ft_law_walked_3 fu_law_walked_3 ((wqL e.1.1).map fun (q : Nat × Int) => PyData.tuple [.int (q.1 : Int), .int q.2]) ⟨[s0, some (.m (.dL (embW A))), s2, some (.o tl.length), some (.d (.tuple (zD e.1.1))), some (.d (.int e.1.2)), a, b, c, d], tl ++ [.dN (embW L)]⟩ = .ok .nx ⟨[s0, some (.m (.dL (embW A))), s2, some (.o tl.length), some (.d (.tuple (zD e.1.1))), some (.d (.int e.1.2)), a', b', c', d], tl ++ [.dN (embW (inW e v L (wqL e.1.1)))]⟩ := by
  unfold okV at he
  rw [Bool.and_eq_true, decide_eq_true_eq, List.all_eq_true] at he
  have lq : (wqL e.1.1).length = e.1.1.length := by unfold wqL; rw [List.length_zip, List.length_range, Nat.min_self]
  obtain ⟨g', f, a', b', c', rfl⟩ := forGo_inv (emb := fun (q : Nat × Int) => PyData.tuple [.int (q.1 : Int), .int q.2]) (t := ft_law_walked_3) (u := fu_law_walked_3) (xs := wqL e.1.1) (g := ⟨[s0, some (.m (.dL (embW A))), s2, some (.o tl.length), some (.d (.tuple (zD e.1.1))), some (.d (.int e.1.2)), a, b, c, d], tl ++ [.dN (embW L)]⟩)
    (fun i g => ∃ a b c, g = ⟨[s0, some (.m (.dL (embW A))), s2, some (.o tl.length), some (.d (.tuple (zD e.1.1))), some (.d (.int e.1.2)), a, b, c, d], tl ++ [.dN (embW (inW e v L ((wqL e.1.1).take i)))]⟩) ⟨a, b, c, rfl⟩ (fun i q g hq hI => by
      obtain ⟨a, b, c, rfl⟩ := hI
      have hm := List.mem_of_getElem? hq
      obtain ⟨h1, h2⟩ := List.of_mem_zip (a := q.1) (b := q.2) hm
      have hk := List.mem_range.mp h1
      have hb := he.2 q.2 h2
      rw [Bool.and_eq_true, decide_eq_true_eq, decide_eq_true_eq] at hb
      have mo : mulOk e.1.2 q.2 = true := mulOk_r (by omega) (by omega)
      have hlen := inW_len e v L ((wqL e.1.1).take i)
      rw [List.length_take] at hlen
      have wr := widths_ok hk (by omega)
      have es : inW e v L ((wqL e.1.1).take (i + 1)) = addW (inW e v L ((wqL e.1.1).take i)) (widM e.1.1 q.1, e.1.2 * q.2) v := foldl_take (fun (L : WdA) (q : Nat × Int) => addW L (widM e.1.1 q.1, e.1.2 * q.2) v) hq L
      rw [es]
      obtain ⟨M, eM⟩ : ∃ M, inW e v L ((wqL e.1.1).take i) = M := ⟨_, rfl⟩
      rw [eM] at hlen ⊢
      obtain ⟨N, eN⟩ : ∃ N, widM e.1.1 q.1 = N := ⟨_, rfl⟩
      rw [eN] at wr ⊢
      obtain ⟨z, ez⟩ : ∃ z, e.1.2 * q.2 = z := ⟨_, rfl⟩
      rw [ez]
      have hs : valNP (embW M) (nkW (N, z)) = (getG M (N, z)).map .int := val_G nkW_inj M (N, z)
      have ga := getG_D (vl := PyData.int) M (N, z) 0
      have hx : valNP (embW A) (nkW (e.1.1, e.1.2)) = (getG A e.1).map .int := val_G nkW_inj A e.1
      rw [hv] at hx
      have gl' : ∀ (z : Ct), (tl ++ [z])[tl.length]? = some z := fun z => by simp
      have sl' : ∀ (z w : Ct), (tl ++ [z]).set tl.length w = tl ++ [w] := fun z w => set_last
      have pu : putNP (embW M) (nkW (N, z)) (.int ((getG M (N, z)).getD 0 + v)) = embW (putG M (N, z) ((getG M (N, z)).getD 0 + v)) := put_G nkW_inj M (N, z) ((getG M (N, z)).getD 0 + v)
      have le : (embW M).length = M.length := embG_len M
      refine ⟨⟨[s0, some (.m (.dL (embW A))), s2, some (.o tl.length), some (.d (.tuple (zD e.1.1))), some (.d (.int e.1.2)), some (.d (.int (q.1 : Int))), some (.d (.int q.2)), some (.d (.tuple [.tuple (zD N), .int z])), d], tl ++ [.dN (embW (addW M (N, z) v))]⟩, .inl ?_, some (.d (.int (q.1 : Int))), some (.d (.int q.2)), some (.d (.tuple [.tuple (zD N), .int z])), rfl⟩
      simp! [ft_law_walked_3, fu_law_walked_3, call_of wr, ez, mo, fGetN_ap, fIxN_ap, ixNK, sPutN_ap, dnAt, getNK, putNK, gl', sl', tnk_W, hs, hx, ga, pu, le, Option.isSome_some, show M.length < 100000 by omega]
      rfl)
  rw [List.take_length] at f
  exact ⟨a', b', c', f⟩
theorem wk_mid {s0 s2 d : Option R} {tl : List Ct} {A : WdA} {a b c h4 h5 : Option R} (hA : okW A = true) :
    ∃ a' b' c' h4' h5', forGo ft_law_walked_2 fu_law_walked_2 (A.map fun e => PyData.tuple [.tuple (zD e.1.1), .int e.1.2]) ⟨[s0, some (.m (.dL (embW A))), s2, some (.o tl.length), h4, h5, a, b, c, d], tl ++ [.dN []]⟩ = .ok .nx ⟨[s0, some (.m (.dL (embW A))), s2, some (.o tl.length), h4', h5', a', b', c', d], tl ++ [.dN (embW (midW A [] A))]⟩ := by
  unfold okW at hA
  rw [Bool.and_eq_true, decide_eq_true_eq, List.all_eq_true] at hA
  obtain ⟨hn, hA⟩ := hA
  obtain ⟨g', f, a', b', c', h4', h5', rfl, _⟩ := forGo_inv (emb := fun (e : WdK × Int) => PyData.tuple [.tuple (zD e.1.1), .int e.1.2]) (t := ft_law_walked_2) (u := fu_law_walked_2) (xs := A) (g := ⟨[s0, some (.m (.dL (embW A))), s2, some (.o tl.length), h4, h5, a, b, c, d], tl ++ [.dN []]⟩)
    (fun i g => ∃ a b c h4 h5, g = ⟨[s0, some (.m (.dL (embW A))), s2, some (.o tl.length), h4, h5, a, b, c, d], tl ++ [.dN (embW (midW A [] (A.take i)))]⟩ ∧ (midW A [] (A.take i)).length ≤ 1000 * i) ⟨a, b, c, h4, h5, rfl, Nat.le_refl _⟩ (fun i e g he hI => by
      obtain ⟨a, b, c, h4, h5, rfl, hl⟩ := hI
      have hi := (List.getElem?_eq_some_iff.mp he).1
      have hm := List.mem_of_getElem? he
      have h1 := hA e hm
      obtain ⟨v, hv⟩ := getG_mem hm
      have es : midW A [] (A.take (i + 1)) = inW e v (midW A [] (A.take i)) (wqL e.1.1) := by
        have := foldl_take (fun (L : WdA) (e : WdK × Int) => inW e ((getG A e.1).getD 0) L (wqL e.1.1)) he []
        rw [hv] at this
        exact this
      have h0 : e.1.1.length < 1000 := by
        unfold okV at h1
        rw [Bool.and_eq_true, decide_eq_true_eq] at h1
        exact h1.1
      have lq : (wqL e.1.1).length = e.1.1.length := by unfold wqL; rw [List.length_zip, List.length_range, Nat.min_self]
      have hlen := inW_len e v (midW A [] (A.take i)) (wqL e.1.1)
      rw [es]
      obtain ⟨M, eM⟩ : ∃ M, midW A [] (A.take i) = M := ⟨_, rfl⟩
      rw [eM] at hlen hl ⊢
      obtain ⟨a', b', c', f⟩ := wk_in (s0 := s0) (s2 := s2) (d := d) (tl := tl) (L := M) (a := a) (b := b) (c := c) hv h1 (by omega)
      have we := wq_emb e.1.1
      refine ⟨_, .inl ?_, a', b', c', some (.d (.tuple (zD e.1.1))), some (.d (.int e.1.2)), rfl, by omega⟩
      simp! [ft_law_walked_2, fu_law_walked_2, we, f])
  rw [List.take_length] at f
  exact ⟨a', b', c', h4', h5', f⟩
theorem wk_fin {s0 s2 s3 : Option R} {tl : List Ct} {A : WdA} {a b c h4 h5 : Option R} (hA : okW A = true) :
    ∃ h4' h5', forGo ft_law_walked_4 fu_law_walked_4 (A.map fun e => PyData.tuple [.tuple (zD e.1.1), .int e.1.2]) ⟨[s0, some (.m (.dL (embW A))), s2, s3, h4, h5, a, b, c, some (.o tl.length)], tl ++ [.dK []]⟩ = .ok .nx ⟨[s0, some (.m (.dL (embW A))), s2, s3, h4', h5', a, b, c, some (.o tl.length)], tl ++ [.dK (embI (finW A A))]⟩ := by
  unfold okW at hA
  rw [Bool.and_eq_true, decide_eq_true_eq, List.all_eq_true] at hA
  obtain ⟨hn, hA⟩ := hA
  obtain ⟨g', f, h4', h5', rfl, _⟩ := forGo_inv (emb := fun (e : WdK × Int) => PyData.tuple [.tuple (zD e.1.1), .int e.1.2]) (t := ft_law_walked_4) (u := fu_law_walked_4) (xs := A) (g := ⟨[s0, some (.m (.dL (embW A))), s2, s3, h4, h5, a, b, c, some (.o tl.length)], tl ++ [.dK []]⟩)
    (fun i g => ∃ h4 h5, g = ⟨[s0, some (.m (.dL (embW A))), s2, s3, h4, h5, a, b, c, some (.o tl.length)], tl ++ [.dK (embI (finW A (A.take i)))]⟩ ∧ (finW A (A.take i)).length ≤ i) ⟨h4, h5, rfl, Nat.le_refl _⟩ (fun i e g he hI => by
      obtain ⟨h4, h5, rfl, hl⟩ := hI
      have hi := (List.getElem?_eq_some_iff.mp he).1
      obtain ⟨v, hv⟩ := getG_mem (List.mem_of_getElem? he)
      have es : finW A (A.take (i + 1)) = addI (finW A (A.take i)) e.1.2 v := by
        have := foldl_take (fun (L : LzI) (e : WdK × Int) => addI L e.1.2 ((getG A e.1).getD 0)) he []
        rw [hv] at this
        exact this
      rw [es]
      obtain ⟨M, eM⟩ : ∃ M, finW A (A.take i) = M := ⟨_, rfl⟩
      rw [eM] at hl ⊢
      have hs := val_I M e.1.2
      have ga := get_addI M e.1.2
      have hx : valNP (embW A) (nkW (e.1.1, e.1.2)) = (getG A e.1).map .int := val_G nkW_inj A e.1
      rw [hv] at hx
      have gl' : ∀ (z : Ct), (tl ++ [z])[tl.length]? = some z := fun z => by simp
      have sl' : ∀ (z w : Ct), (tl ++ [z]).set tl.length w = tl ++ [w] := fun z w => set_last
      have pu := put_I M e.1.2 ((getI M e.1.2).getD 0 + v)
      have al := addI_len M e.1.2 v
      refine ⟨⟨[s0, some (.m (.dL (embW A))), s2, s3, some (.d (.tuple (zD e.1.1))), some (.d (.int e.1.2)), a, b, c, some (.o tl.length)], tl ++ [.dK (embI (addI M e.1.2 v))]⟩, .inl ?_, _, _, rfl, by omega⟩
      simp! [ft_law_walked_4, fu_law_walked_4, fGetK_ap, getKK, dGet, dPut, fIxN_ap, ixNK, dnAt, tnk_W, hx, gl', sl', hs, ga, pu, embI_len, Option.isSome_some, show M.length < 100000 by omega]
      rfl)
  rw [List.take_length] at f
  exact ⟨h4', h5', f⟩
theorem wk_turns {n : Nat} {s0 d : Option R} (hA : ∀ t, t ≤ n → okW (stW n t) = true) {a b c h4 h5 s2 s3 : Option R} :
    ∃ tl s2' s3' a' b' c' h4' h5', forGo ft_law_walked_1 fu_law_walked_1 (rng 0 n) ⟨[s0, some (.o 0), s2, s3, h4, h5, a, b, c, d], [.dN (embW (stW n 0))]⟩ = .ok .nx ⟨[s0, some (.o tl.length), s2', s3', h4', h5', a', b', c', d], tl ++ [.dN (embW (stW n n))]⟩ := by
  obtain ⟨g', f, tl, s2', s3', a', b', c', h4', h5', rfl⟩ := forGo_inv (emb := fun (i : Nat) => PyData.int (i : Int)) (t := ft_law_walked_1) (u := fu_law_walked_1) (xs := List.range n) (g := ⟨[s0, some (.o 0), s2, s3, h4, h5, a, b, c, d], [.dN (embW (stW n 0))]⟩)
    (fun i g => ∃ tl s2 s3 a b c h4 h5, g = ⟨[s0, some (.o tl.length), s2, s3, h4, h5, a, b, c, d], tl ++ [.dN (embW (stW n i))]⟩) ⟨[], s2, s3, a, b, c, h4, h5, rfl⟩ (fun i x g hx hI => by
      obtain ⟨tl, s2, s3, a, b, c, h4, h5, rfl⟩ := hI
      have hi := (List.getElem?_eq_some_iff.mp hx).1
      rw [List.length_range] at hi
      have hA := hA i (by omega)
      have es : stW n (i + 1) = midW (stW n i) [] (stW n i) := rfl
      rw [es]
      obtain ⟨M, eM⟩ : ∃ M, stW n i = M := ⟨_, rfl⟩
      rw [eM] at hA ⊢
      have ll : (tl ++ [Ct.dead]).length = tl.length + 1 := by simp
      obtain ⟨a', b', c', h4', h5', f⟩ := wk_mid (s0 := s0) (s2 := some (.d (.int x))) (d := d) (tl := tl ++ [.dead]) (A := M) (a := a) (b := b) (c := c) (h4 := h4) (h5 := h5) hA
      rw [ll] at f
      have l2 : (tl ++ [Ct.dN (embW M)]).length = tl.length + 1 := by simp
      have fz : frzDK 1 ⟨[s0, some (.o tl.length), some (.d (.int x)), some (.o (tl.length + 1)), h4, h5, a, b, c, d], tl ++ [.dN (embW M)] ++ [.dN []]⟩ (some (some (.o tl.length))) = .ok (.m (.dL (embW M))) ⟨[s0, some (.m (.dL (embW M))), some (.d (.int x)), some (.o (tl.length + 1)), h4, h5, a, b, c, d], tl ++ [.dead] ++ [.dN []]⟩ := by
        rw [frzDK_N (kvs := embW M) (by simp)]
        simp
      have kw := keys_W M
      refine ⟨⟨[s0, some (.o (tl.length + 1)), some (.d (.int x)), some (.o (tl.length + 1)), h4', h5', a', b', c', d], tl ++ [.dead] ++ [.dN (embW (midW M [] M))]⟩, .inl ?_, tl ++ [.dead], _, _, a', b', c', h4', h5', by rw [ll]⟩
      simp! [ft_law_walked_1, fu_law_walked_1, fDict0N_ap, l2, iKyD_ap, fFrzD_ap, fz, kw, f])
  rw [← rng0, List.length_range] at f
  exact ⟨tl, s2', s3', a', b', c', h4', h5', f⟩
theorem walked_ok {n : Nat} (hn : n < 100) (hA : ∀ t, t ≤ n → okW (stW n t) = true) : fn_law_walked [.d (.int n)] [] = .ok (.dat (.list (psD (srtP (finW (stW n n) (stW n n)))))) [] := by
  have ro : rOk (n : Int) = true := rOk_of (by omega) (by omega)
  have ak := asIntKV_of (finW (stW n n) (stW n n))
  obtain ⟨tl, s2', s3', a', b', c', h4', h5', f⟩ := wk_turns (n := n) (s0 := some (.d (.int n))) (d := none) hA (a := none) (b := none) (c := none) (h4 := none) (h5 := none) (s2 := none) (s3 := none)
  have hA := hA n (Nat.le_refl _)
  have e0 : embW (stW n 0) = [(nkW (List.replicate n 1, 1), .int 1)] := rfl
  rw [e0] at f
  obtain ⟨M, eM⟩ : ∃ M, stW n n = M := ⟨_, rfl⟩
  rw [eM] at hA f ak ⊢
  have ll : (tl ++ [Ct.dead]).length = tl.length + 1 := by simp
  obtain ⟨h4, h5, f2⟩ := wk_fin (s0 := some (.d (.int n))) (s2 := s2') (s3 := s3') (tl := tl ++ [.dead]) (A := M) (a := a') (b := b') (c := c') (h4 := h4') (h5 := h5') hA
  rw [ll] at f2
  have l2 : (tl ++ [Ct.dN (embW M)]).length = tl.length + 1 := by simp
  have fz : frzDK 1 ⟨[some (.d (.int n)), some (.o tl.length), s2', s3', h4', h5', a', b', c', some (.o (tl.length + 1))], tl ++ [.dN (embW M)] ++ [.dK []]⟩ (some (some (.o tl.length))) = .ok (.m (.dL (embW M))) ⟨[some (.d (.int n)), some (.m (.dL (embW M))), s2', s3', h4', h5', a', b', c', some (.o (tl.length + 1))], tl ++ [.dead] ++ [.dK []]⟩ := by
    rw [frzDK_N (kvs := embW M) (by simp)]
    simp
  have fz2 : frzDK 9 ⟨[some (.d (.int n)), some (.m (.dL (embW M))), s2', s3', h4, h5, a', b', c', some (.o (tl.length + 1))], tl ++ [.dead] ++ [.dK (embI (finW M M))]⟩ (some (some (.o (tl.length + 1)))) = .ok (.m (.dF (embI (finW M M)))) ⟨[some (.d (.int n)), some (.m (.dL (embW M))), s2', s3', h4, h5, a', b', c', some (.m (.dF (embI (finW M M))))], tl ++ [.dead] ++ [.dead]⟩ := by
    have e1 : (tl ++ [Ct.dead] ++ [Ct.dK (embI (finW M M))])[tl.length + 1]? = some (Ct.dK (embI (finW M M))) := by rw [← ll]; simp
    rw [frzDK_K (kvs := embI (finW M M)) e1]
    have e2 : (tl ++ [Ct.dead] ++ [Ct.dK (embI (finW M M))]).set (tl.length + 1) .dead = tl ++ [.dead] ++ [.dead] := by rw [← ll]; exact set_last
    show Out.ok _ _ = _
    rw [e2]
    rfl
  have rz : ∀ g : G, opRepZ g (.d (.tuple [.int 1])) (.d (.int n)) = some (.d (.tuple (zD (List.replicate n 1)))) := fun g => by
    rw [opRepZ_ap, if_pos ⟨by decide, by omega, by omega⟩, Int.toNat_natCast]
    have : ∀ k : Nat, (List.replicate k [PyData.int 1]).flatten = zD (List.replicate k 1) := fun k => by
      induction k with
      | zero => rfl
      | succ k ih => rw [List.replicate_succ, List.flatten_cons, ih, List.replicate_succ]; rfl
    rw [this]
  have d1 : disp1NK 0 ⟨[some (.d (.int n)), none, none, none, none, none, none, none, none, none], [.dN []]⟩ (.d (.tuple [.tuple (zD (List.replicate n 1)), .int 1])) (.d (.int 1)) = .ok (.o 0) ⟨[some (.d (.int n)), none, none, none, none, none, none, none, none, none], [.dN [(nkW (List.replicate n 1, 1), .int 1)]]⟩ := disp1NK_of (ce := []) (tnk_W _ _) rfl
  have kw := keys_W M
  have ak : asIntKV (embI (finW M M)) = some (finW M M) := ak
  simp! [fn_law_walked, b_law_walked, fDisp1N_ap, rz, ro, d1, Int.toNat_natCast, f, iKyD_ap, fFrzD_ap, l2, fz, kw, f2, fSortIt_ap, fz2, ak]
theorem okW_small : ∀ n, n ≤ 8 → ∀ t, t ≤ n → okW (stW n t) = true := by
  have h : ((List.range 9).all fun n => (List.range (n + 1)).all fun t => okW (stW n t)) = true := by decide +kernel
  intro n hn t ht
  rw [List.all_eq_true] at h
  have h1 := h n (List.mem_range.mpr (by omega))
  rw [List.all_eq_true] at h1
  exact h1 t (List.mem_range.mpr (by omega))
theorem tabW_perm : ∀ n, n ≤ 8 → (tabZ n).Perm (finW (stW n n) (stW n n)) := by
  have h : ∀ n : Fin 9, (tabZ n.1).Perm (finW (stW n.1 n.1) (stW n.1 n.1)) := by decide +kernel
  exact fun n hn => h ⟨n, by omega⟩
theorem walks_ok {n : Nat} (hn : n ≤ 8) : fn_law_walked [.d (.int n)] [] = .ok (.dat (.list (psD (tabZ n)))) [] := by
  rw [walked_ok (by omega) (okW_small n hn), srtP_eq (tabW_perm n hn) (tabZ_sorted n hn)]
end DL
set_option Elab.async false
set_option linter.all false
set_option maxRecDepth 100000
set_option maxHeartbeats 1000000
set_option autoImplicit false
namespace DL
open PySem PySem.Spec PyProof.Rows L2
theorem ce_at0 (ce : List Ct) (x y : Ct) : (ce ++ [x] ++ [y])[ce.length]? = some x := by rw [List.append_assoc, List.getElem?_append_right (Nat.le_refl _), Nat.sub_self]; rfl
theorem ce_at1 (ce : List Ct) (x y : Ct) : (ce ++ [x] ++ [y])[(ce ++ [x]).length]? = some y := by rw [List.getElem?_append_right (Nat.le_refl _), Nat.sub_self]; rfl
theorem loan2 (sl : List (Option R)) (ce : List Ct) (a b : List PyData) (y : PyData) : loans ⟨sl, ce ++ [.lst a] ++ [.lst b]⟩ [.l [ce.length, (ce ++ [Ct.lst a]).length], .d y] = some [.list [.list a, .list b], y] := by
  simp only [loans, loanR, lstsAt, lstAt, ce_at0, ce_at1, Option.map_some]
theorem lst2 (sl : List (Option R)) (ce : List Ct) (a b : Ct) : lstLK ⟨sl, ce ++ [a] ++ [b]⟩ (asOs [.o ce.length, .o (ce ++ [a]).length]) = .ok (.l [ce.length, (ce ++ [a]).length]) ⟨sl, ce ++ [a] ++ [b]⟩ := by
  simp only [asOs, Option.map_some, lstLK, List.length_cons, List.length_nil]
  rfl
theorem ixL0 (i : Nat) (is : List Nat) : atI (i :: is) 0 = some i := by rw [atI_0]; rfl
theorem okp (L : List (Int × Int)) (h : L.length < 1000) : okD 3 (.list (psD L)) = true := by
  show (decide ((psD L).length < 1000) && (psD L).all (okD 2)) = true
  rw [List.length_map, decide_eq_true h, Bool.true_and, List.all_map, List.all_eq_true]
  intro p _
  rfl
theorem ok_up : ∀ (n : Nat) (d : PyData), okD n d = true → okD (n + 1) d = true
  | 0, d, h => by cases h
  | n + 1, .int _, h => rfl
  | n + 1, .bool _, h => rfl
  | n + 1, .none, h => rfl
  | n + 1, .str s, h => h
  | n + 1, .list ds, h => by
    have h : (decide (ds.length < 1000) && ds.all (okD n)) = true := h
    show (decide (ds.length < 1000) && ds.all (okD (n + 1))) = true
    rw [Bool.and_eq_true, List.all_eq_true] at h ⊢
    exact ⟨h.1, fun d hd => ok_up n d (h.2 d hd)⟩
  | n + 1, .tuple ds, h => by
    have h : (decide (ds.length < 1000) && ds.all (okD n)) = true := h
    show (decide (ds.length < 1000) && ds.all (okD (n + 1))) = true
    rw [Bool.and_eq_true, List.all_eq_true] at h ⊢
    exact ⟨h.1, fun d hd => ok_up n d (h.2 d hd)⟩
  | n + 1, .dict _, h => by cases h
theorem ok_two {d e : PyData} (h : okD 3 d = true) (h2 : okD 3 e = true) : okD 4 (.list [d, e]) = true := by
  show (decide (2 < 1000) && (okD 3 d && (okD 3 e && true))) = true
  rw [h, h2]; rfl
end DL
set_option Elab.async false
set_option linter.all false
set_option maxRecDepth 100000
set_option maxHeartbeats 1000000
set_option autoImplicit false
namespace DL
open PySem PySem.Spec PyProof.Rows L2
noncomputable def lawElt (fn : Fn) : FE := fCall fn false (fCons (fCall fn_law_box true (fCons (fVar 0) (fCons (fVar 1) fNil))) fNil)
noncomputable def lawAll (k : Int) (fn : Fn) : FS :=
  (sRt (fCl clAll (fCons (fLc (iRg1 (fCons (fOp opAdd (fC (.int 1)) (fCl clMin (fCons (fC (.int k)) (fCons (fCl clLen (fCons (fVar 0) fNil)) fNil)))) fNil)) (tN 1) fYes (lawElt fn) [1]) fNil)))
theorem law_all {fn : Fn} (k : Nat) (hk : k < 60) (h : ∀ bx, BoxOk 0 bx → ∃ bx', fn [.o 0] [.lst bx] = .ok (.dat (.bool true)) [.lst bx']) (ns : List Int) : mkFn 2 (lawAll k fn) [.s ns] [] = .ok (.dat (.bool true)) [] := by
  obtain ⟨m, hm, em⟩ : ∃ m : Nat, m < 62 ∧ (1 + (if ((ns.length : Nat) : Int) < (k : Int) then ((ns.length : Nat) : Int) else (k : Int))) = (m : Int) := by
    refine ⟨(1 + (if ((ns.length : Nat) : Int) < (k : Int) then ((ns.length : Nat) : Int) else (k : Int))).toNat, ?_, ?_⟩ <;> split <;> omega
  have rk : rOk (m : Int) = true := rOk_of (by omega) (by omega)
  obtain ⟨acc, ce', e, ea⟩ := lcGo_inv (emb := fun (i : Nat) => PyData.int (i : Int)) (t := tN 1) (c := fYes) (f := lawElt fn) (sl := [some (.s ns), none]) (ws := [1]) (fun i acc ce => acc = (List.replicate i true).map PyData.bool) (xs := List.range m) (ce := []) rfl (fun i acc ce hI hi => by
      rw [hI, List.length_map, List.length_replicate]
      rw [List.length_range] at hi
      omega) (fun i x acc ce hx hI => by
      have hi : i < m := by
        have := (List.getElem?_eq_some_iff.mp hx).1
        simpa using this
      have ex : x = i := by
        have := (List.getElem?_eq_some_iff.mp hx).2
        simpa using this.symm
      subst ex
      obtain ⟨bx, b1, b2⟩ := box_ok ns x (by omega)
      obtain ⟨bx', b3⟩ := h bx b2
      have c1 := call_newO b1 ⟨[some (.s ns), some (.d (.int x))], ce⟩
      have c2 := callB_of b3 (j := ce.length) (g := ⟨[some (.s ns), some (.d (.int x))], ce ++ [.lst bx]⟩) false (by simp)
      refine ⟨some (.bool true), (ce ++ [Ct.lst bx]).set ce.length (Ct.lst bx'), ?_, ?_⟩
      · simp! [lcSt, lawElt, c1, c2]
      · rw [hI, List.replicate_succ', List.map_append]; rfl)
  rw [← rng0] at e
  rw [ea] at e
  simp! [lawAll, em, rk, Int.toNat_natCast, e]
  simp
end DL
set_option Elab.async false
set_option linter.all false
set_option maxRecDepth 100000
set_option maxHeartbeats 1000000
set_option autoImplicit false
namespace DL
open PySem PySem.Spec PyProof.Rows L2
noncomputable def ft_law_right_1 : FG := (tN 3)
noncomputable def fu_law_right_1 : FS := (sSq (sSet (fCall fn_law_runs false (fCons (fVar 3) fNil)) (tN 4))
    (sPutN (fVar 2) (fVar 4) (fOp opAdd (fGetN (fVar 2) (fVar 4) (fC (.int 0))) (fC (.int 1)))))
noncomputable def ct_law_right_1 : FG := (tN 11)
noncomputable def cc_law_right_1 : FT := fYes
noncomputable def cf_law_right_1 : FE := (fTup (fCons (fVar 11) (fCons (fMt mtCount (fVar 5) (fCons (fVar 11) fNil)) fNil)))
noncomputable def ct_law_right_2 : FG := (tN 9)
noncomputable def cc_law_right_2 : FT := fYes
noncomputable def cf_law_right_2 : FE := (fCall fn_count_lots false (fCons (fVar 9) fNil))
noncomputable def ft_law_right_2 : FG := (tN 9)
noncomputable def fu_law_right_2 : FS := (sIte (fTst (fOp opNe (fOp opIx (fVar 8) (fVar 9)) (fOp opAdd (fOp opMul (fC (.int 2)) (fOp opIx (fVar 8) (fOp opSub (fVar 9) (fC (.int 1))))) (fOp opMul (fOp opSub (fVar 9) (fC (.int 2))) (fOp opIx (fVar 8) (fOp opSub (fVar 9) (fC (.int 2)))))))) (sRt (fC (.bool false))) sNx)
noncomputable def ct_law_right_3 : FG := (tTupA 2 (tCons (tN 11) (tCons (tN 12) tNil)))
noncomputable def cc_law_right_3 : FT := fYes
noncomputable def cf_law_right_3 : FE := (fVar 12)
noncomputable def b_law_right : FS :=
  (sSq (sSet (fCall (fn_law_take 4) false (fCons (fVar 0) (fCons (fC (.int 6)) fNil))) (tN 1))
  (sSq (sSet fDict0N (tN 2))
  (sSq (sFr (iSeq (fCall fn_law_orders false (fCons (fRg2 false (fC (.int 1)) (fOp opAdd (fVar 1) (fC (.int 1)))) fNil))) ft_law_right_1 fu_law_right_1)
  (sSq (sSet (fSortVa (fFrzD 2)) (tN 5))
  (sSq (sSet (fLc (iSeq (fSortSetI (fVar 5))) ct_law_right_1 cc_law_right_1 cf_law_right_1 [11]) (tN 6))
  (sSq (sSet (fLstL (fCons (fCall fn_lot_sizes true (fCons (fVar 1) fNil)) (fCons (fCall fn_lot_sizes true (fPerm [0] (fCons (fVar 1) fNil))) fNil))) (tN 7))
  (sSq (sIte (fOrT (fNotT (fTst (fCall (fn_law_same 4) false (fCons (fLst (fCons (fCall fn_count_lots false (fCons (fVar 1) fNil)) (fCons (fCall fn_count_lots false (fPerm [0] (fCons (fVar 1) fNil))) fNil))) (fCons (fOp opRep (fLst (fCons (fCl clLenN (fCons (fFrzD 2) fNil)) fNil)) (fC (.int 2))) fNil))))) (fNotT (fTst (fCallL (fn_law_same 4) (fCons (fVar 7) (fCons (fLst (fCons (fVar 6) (fCons (fVar 6) fNil))) fNil)))))) (sRt (fC (.bool false))) sNx)
  (sSq (sEx (fMt mtAppend (fOp opIxL (fVar 7) (fC (.int 0))) (fCons (fC (.str "more")) fNil)))
  (sSq (sIte (fNotT (fTst (fCall (fn_law_same 4) false (fCons (fCall fn_lot_sizes false (fCons (fVar 1) fNil)) (fCons (fVar 6) fNil))))) (sRt (fC (.bool false))) sNx)
  (sSq (sSet (fLc (iRg1 (fCons (fC (.int 17)) fNil)) ct_law_right_2 cc_law_right_2 cf_law_right_2 [9]) (tN 8))
  (sSq (sIte (fTst (fOp opNe (fSl (fVar 8) fNoP (fPart (fC (.int 2)))) (fLst (fCons (fC (.int 1)) (fCons (fC (.int 1)) fNil))))) (sRt (fC (.bool false))) sNx)
  (sSq (sFr (iRg2 (fCons (fC (.int 2)) (fCons (fC (.int 17)) fNil))) ft_law_right_2 fu_law_right_2)
  (sSq (sSet (fCall (fn_law_take 4) false (fCons (fVar 0) (fCons (fC (.int 9)) fNil))) (tN 10))
  (sSq (sSet (fCall fn_law_walked false (fCons (fVar 10) fNil)) (tN 6))
  (sRt (fAnd (fCall (fn_law_same 4) false (fCons (fCall fn_lot_sizes false (fCons (fVar 10) fNil)) (fCons (fVar 6) fNil))) (fOp opEq (fCl clSum (fCons (fLc (iSeq (fVar 6)) ct_law_right_3 cc_law_right_3 cf_law_right_3 [11, 12]) fNil)) (fOp opIx (fVar 8) (fVar 10)))))))))))))))))))
noncomputable def fn_law_right : Fn := mkFn 13 b_law_right
abbrev RnA := List (List (Int × Int) × Int)
def rowR (n : Nat) (r : List Int) : List (Int × Int) := runsC ((oneT n).map (codeI r))
def addR (A : RnA) (k : List (Int × Int)) : RnA := putG A k ((getG A k).getD 0 + 1)
def lotD (n : Nat) (rs : List (List Int)) : RnA := rs.foldl (fun A r => addR A (rowR n r)) []
def sizV (n : Nat) : List Int := (tabZ n).flatMap fun p => List.replicate p.2.toNat p.1
abbrev embR (A : RnA) : List (NestedKey × PyData) := embG nkR PyData.int A
theorem lot_vals : ∀ n, n ≤ 5 → (sizV n).Perm ((lotD n (ordGo (oneT n) n)).map (·.2)) ∧ ((lotD n (ordGo (oneT n) n)).length : Int) = lotsN n ∧ (sizV n).Pairwise (· ≤ ·) ∧ (sizV n).length ≤ 100 ∧ dstI (sizV n) = (tabZ n).map (·.1) ∧ ((tabZ n).map (·.1)).Pairwise (· ≤ ·) ∧ (tabZ n).length < 60 ∧ (∀ p ∈ tabZ n, ((sizV n).count p.1 : Int) = p.2) ∧ (ordGo (oneT n) n).length ≤ 120 := by
  have h : ∀ n : Fin 6, (sizV n.1).Perm ((lotD n.1 (ordGo (oneT n.1) n.1)).map (·.2)) ∧ ((lotD n.1 (ordGo (oneT n.1) n.1)).length : Int) = lotsN n.1 ∧ (sizV n.1).Pairwise (· ≤ ·) ∧ (sizV n.1).length ≤ 100 ∧ dstI (sizV n.1) = (tabZ n.1).map (·.1) ∧ ((tabZ n.1).map (·.1)).Pairwise (· ≤ ·) ∧ (tabZ n.1).length < 60 ∧ (∀ p ∈ tabZ n.1, ((sizV n.1).count p.1 : Int) = p.2) ∧ (ordGo (oneT n.1) n.1).length ≤ 120 := by decide +kernel
  exact fun n hn => h ⟨n, by omega⟩
theorem tab_small : ∀ n, n ≤ 8 → (tabZ n).length < 100 ∧ ((tabZ n).map (·.2)).sum = lotsN n := by
  have h : ∀ n : Fin 9, (tabZ n.1).length < 100 ∧ ((tabZ n.1).map (·.2)).sum = lotsN n.1 := by decide +kernel
  exact fun n hn => h ⟨n, by omega⟩
theorem row_runs {n : Nat} {r : List Int} (h : r ∈ ordGo (oneT n) n) : r.Nodup ∧ r.length = n ∧ runsM r = rowR n r := by
  have e := oneT_len n
  have p := (ord_full (oneT_nd n) (z := r)).mp (by rw [e]; exact h)
  have es : srt r = oneT n := (srt_eq p.symm ((oneT_asc n).imp fun h => Int.le_of_lt h)).symm
  refine ⟨p.nodup_iff.mpr (oneT_nd n), by rw [p.length_eq, e], ?_⟩
  unfold runsM codesM rowR
  rw [es]
theorem lotD_len (n : Nat) (rs : List (List Int)) : (lotD n rs).length ≤ rs.length := by
  have := foldl_len (fun (A : RnA) (r : List Int) => addR A (rowR n r)) (fun _ => 1) (fun L b => putG_len _ _ _) rs []
  rw [List.map_const', List.sum_replicate_nat] at this
  unfold lotD
  simp only [List.length_nil] at this
  omega
theorem k23_rows {n : Nat} (hn : n ≤ 5) {bx : List PyData} :
    ∃ a b, forGo ft_law_right_1 fu_law_right_1 ((ordGo (oneT n) n).map tupD) ⟨[some (.o 0), some (.d (.int n)), some (.o 1), none, none, none, none, none, none, none, none, none, none], [.lst bx, .dN []]⟩ = .ok .nx ⟨[some (.o 0), some (.d (.int n)), some (.o 1), a, b, none, none, none, none, none, none, none, none], [.lst bx, .dN (embR (lotD n (ordGo (oneT n) n)))]⟩ := by
  have l120 := (lot_vals n hn).2.2.2.2.2.2.2.2
  obtain ⟨g', f, a, b, rfl⟩ := forGo_inv (emb := tupD) (t := ft_law_right_1) (u := fu_law_right_1) (xs := ordGo (oneT n) n) (g := ⟨[some (.o 0), some (.d (.int n)), some (.o 1), none, none, none, none, none, none, none, none, none, none], [.lst bx, .dN []]⟩)
    (fun i g => ∃ a b, g = ⟨[some (.o 0), some (.d (.int n)), some (.o 1), a, b, none, none, none, none, none, none, none, none], [.lst bx, .dN (embR (lotD n ((ordGo (oneT n) n).take i)))]⟩) ⟨none, none, rfl⟩ (fun i r g hr hI => by
      obtain ⟨a, b, rfl⟩ := hI
      obtain ⟨nd, lr, er⟩ := row_runs (List.mem_of_getElem? hr)
      have lruns := lruns_ok (x := .tuple (zD r)) sqT (by omega) nd
      rw [er] at lruns
      have ml := lotD_len n ((ordGo (oneT n) n).take i)
      rw [List.length_take] at ml
      have es : lotD n ((ordGo (oneT n) n).take (i + 1)) = addR (lotD n ((ordGo (oneT n) n).take i)) (rowR n r) := foldl_take (fun (A : RnA) (r : List Int) => addR A (rowR n r)) hr []
      rw [es]
      obtain ⟨M, eM⟩ : ∃ M, lotD n ((ordGo (oneT n) n).take i) = M := ⟨_, rfl⟩
      rw [eM] at ml ⊢
      obtain ⟨k, ek⟩ : ∃ k, rowR n r = k := ⟨_, rfl⟩
      rw [ek] at lruns ⊢
      have hs : valNP (embR M) (nkR k) = (getG M k).map .int := val_G nkR_inj M k
      have ga := getG_D (vl := PyData.int) M k 0
      have pu : putNP (embR M) (nkR k) (.int ((getG M k).getD 0 + 1)) = embR (putG M k ((getG M k).getD 0 + 1)) := put_G nkR_inj M k ((getG M k).getD 0 + 1)
      have le : (embR M).length = M.length := embG_len M
      refine ⟨⟨[some (.o 0), some (.d (.int n)), some (.o 1), some (.d (.tuple (zD r))), some (.d (.tuple (psD k))), none, none, none, none, none, none, none, none], [.lst bx, .dN (embR (addR M k))]⟩, .inl ?_, _, _, rfl⟩
      simp! [ft_law_right_1, fu_law_right_1, tupD, call_of lruns, fGetN_ap, sPutN_ap, dnAt, getNK, putNK, tnk_R, hs, ga, pu, le, Option.isSome_some, show M.length < 100000 by omega]
      rfl)
  rw [List.take_length] at f
  exact ⟨a, b, f⟩
theorem rg2_ap (t : Bool) (fa fb : FE) (g : G) : fRg2 t fa fb g = (fa g).bind fun r1 g1 => (fb g1).bind fun r2 g2 => match r1, r2 with
  | .d (.int i), .d (.int j) => rgK t i j g2
  | _, _ => .no := id rfl
theorem count_zD (ns : List Int) (s : Int) : (zD ns).countP (fun z => PyData.eqv z (.int s)) = ns.count s := by
  induction ns with
  | nil => rfl
  | cons n ns ih =>
    show (PyData.int n :: zD ns).countP _ = _
    rw [List.countP_cons, List.count_cons, ih, eqv_int]
    by_cases h : n = s
    · simp [h]
    · simp [h]
theorem k23_some {w : Nat} (hw : w < 17) : atI (zD ((List.range 17).map lotsN)) (w : Int) = some (.int (lotsN w)) := by
  rw [atI_cast]
  unfold zD
  rw [List.getElem?_map, List.getElem?_map, List.getElem?_range hw]
  rfl
theorem k23_loop {s1 s2 s3 s4 s5 s6 s7 s9 s10 s11 s12 : Option R} {ce : List Ct} : ∃ a, forGo ft_law_right_2 fu_law_right_2 (rng 2 15) ⟨[some (.o 0), s1, s2, s3, s4, s5, s6, s7, some (.d (.list (zD ((List.range 17).map lotsN)))), s9, s10, s11, s12], ce⟩ = .ok .nx ⟨[some (.o 0), s1, s2, s3, s4, s5, s6, s7, some (.d (.list (zD ((List.range 17).map lotsN)))), a, s10, s11, s12], ce⟩ := by
  obtain ⟨g', f, a, rfl⟩ := forGo_inv (emb := fun (j : Nat) => PyData.int (j : Int)) (t := ft_law_right_2) (u := fu_law_right_2) (xs := List.range' 2 15) (g := ⟨[some (.o 0), s1, s2, s3, s4, s5, s6, s7, some (.d (.list (zD ((List.range 17).map lotsN)))), s9, s10, s11, s12], ce⟩)
    (fun i g => ∃ a, g = ⟨[some (.o 0), s1, s2, s3, s4, s5, s6, s7, some (.d (.list (zD ((List.range 17).map lotsN)))), a, s10, s11, s12], ce⟩) ⟨s9, rfl⟩ (fun i x g hx hI => by
      obtain ⟨a, rfl⟩ := hI
      have hi := (List.getElem?_eq_some_iff.mp hx).1
      rw [List.length_range'] at hi
      have ex : x = i + 2 := by
        rw [List.getElem?_range' hi] at hx
        have := Option.some.inj hx
        omega
      subst ex
      have a0 := k23_some (w := i + 2) (by omega)
      have a1 := k23_some (w := i + 1) (by omega)
      have a2 := k23_some (w := i) (by omega)
      have z1 : ((i + 2 : Nat) : Int) - 1 = ((i + 1 : Nat) : Int) := by omega
      have z2 : ((i + 2 : Nat) : Int) - 2 = ((i : Nat) : Int) := by omega
      have en : lotsN (i + 2) = 2 * lotsN (i + 1) + (i : Int) * lotsN i := rfl
      have m1 : mulOk 2 (lotsN (i + 1)) = true := mulOk_l (by decide) (by decide)
      have m2 : mulOk (i : Int) (lotsN i) = true := mulOk_l (by omega) (by omega)
      rw [en] at a0
      refine ⟨_, .inl ?_, some (.d (.int ((i + 2 : Nat) : Int))), rfl⟩
      obtain ⟨Z, eZ⟩ : ∃ Z, zD ((List.range 17).map lotsN) = Z := ⟨_, rfl⟩
      rw [eZ] at a0 a1 a2 ⊢
      obtain ⟨x0, e0⟩ : ∃ x0, lotsN i = x0 := ⟨_, rfl⟩
      obtain ⟨x1, e1⟩ : ∃ x1, lotsN (i + 1) = x1 := ⟨_, rfl⟩
      obtain ⟨x2, e2⟩ : ∃ x2 : Int, ((i + 2 : Nat) : Int) = x2 := ⟨_, rfl⟩
      rw [e0, e1] at a0
      rw [e0] at a2 m2
      rw [e1] at a1 m1
      rw [e2] at a0 z1 z2 ⊢
      simp! [ft_law_right_2, fu_law_right_2, z1, z2, a0, a1, a2, m1, m2])
  rw [← rngN 2 15] at f
  exact ⟨a, f⟩
theorem k23_step {z y : Int} (cc : fn_count_lots [.d (.int z)] [] = .ok (.dat (.int y)) []) {s1 s2 s3 s4 s5 s6 s7 : Option R} {ce : List Ct} : lcSt ct_law_right_2 cc_law_right_2 cf_law_right_2 [some (.o 0), s1, s2, s3, s4, s5, s6, s7, none, none, none, none, none] [9] (.int z) ce = some (some (.int y), ce) := by
  simp! [lcSt, ct_law_right_2, cc_law_right_2, cf_law_right_2, call_of cc]
theorem k23_counts {m : Nat} (hm : m ≤ 17) {s1 s2 s3 s4 s5 s6 s7 : Option R} {ce : List Ct} : lcGo ct_law_right_2 cc_law_right_2 cf_law_right_2 [some (.o 0), s1, s2, s3, s4, s5, s6, s7, none, none, none, none, none] [9] (rng 0 m) [] ce = .ok (zD ((List.range m).map lotsN)) ⟨[some (.o 0), s1, s2, s3, s4, s5, s6, s7, none, none, none, none, none], ce⟩ := by
  have st2 := lcGo_map (emb := fun (i : Nat) => PyData.int (i : Int)) (t := ct_law_right_2) (c := cc_law_right_2) (f := cf_law_right_2) (sl := [some (.o 0), s1, s2, s3, s4, s5, s6, s7, none, none, none, none, none]) (ws := [9]) (ce := ce) (fun i => PyData.int (lotsN i)) (xs := List.range m) (by rw [List.length_range]; omega) (fun i hi => k23_step (count_lots_ok (by have := List.mem_range.mp hi; omega)))
  have e17 : (List.range m).map (fun i => PyData.int (lotsN i)) = zD ((List.range m).map lotsN) := by unfold zD; rw [List.map_map]; rfl
  rw [e17, ← rng0] at st2
  exact st2
theorem right_ok {bx : List PyData} (h : BoxOk 0 bx) : ∃ bx', fn_law_right [.o 0] [.lst bx] = .ok (.dat (.bool true)) [.lst bx'] := by
  obtain ⟨t, bx1, e1, t0, t1, hb1⟩ := take4 (below := 6) h (by omega) (by omega) (by omega)
  obtain ⟨n, em⟩ : ∃ m : Nat, t = m := ⟨t.toNat, by omega⟩
  subst em
  have hn : n ≤ 5 := by omega
  obtain ⟨v, bx2, e2, v0, v1, hb2⟩ := take4 (below := 9) hb1 (by omega) (by omega) (by omega)
  obtain ⟨w, ew⟩ : ∃ m : Nat, v = m := ⟨v.toNat, by omega⟩
  subst ew
  have hw : w ≤ 8 := by omega
  obtain ⟨p1, p2, p3, p4, p5, p6, p7, p8, p9⟩ := lot_vals n hn
  obtain ⟨w1, w2⟩ := tab_small w hw
  have rc := count_lots_ok (m := n) (by omega)
  have rs := sizes_ok (n := n) (by omega)
  have rw' := sizes_ok hw
  have wk := walks_ok hw
  have eo : rng 1 n = zD (oneT n) := by
    unfold oneT rngI zD rng
    rw [List.map_map, List.map_map]
    refine List.map_congr_left fun i _ => ?_
    show PyData.int (1 + (i : Int)) = PyData.int ((i : Int) + 1)
    rw [Int.add_comm]
  have rg : ∀ g : G, rgK false 1 ((n : Int) + 1) g = .ok (.d (.list (zD (oneT n)))) g := fun g => by
    unfold rgK
    have e : rgOk 1 ((n : Int) + 1) = true := decide_eq_true (by omega)
    rw [if_pos e, show ((n : Int) + 1 - 1).toNat = n by omega, eo]
    rfl
  have od := orders_ok hn
  obtain ⟨a3, a4, f1⟩ := k23_rows hn (bx := bx1)
  have c1 := fun (sl : List (Option R)) => callB_of e1 (j := 0) (g := ⟨sl, [.lst bx]⟩) false rfl
  -- the sizes
  have sv : srt ((lotD n (ordGo (oneT n) n)).map (·.2)) = sizV n := (srt_eq p1 p3).symm
  have ai : asInts ((embR (lotD n (ordGo (oneT n) n))).map (·.2)) = some ((lotD n (ordGo (oneT n) n)).map (·.2)) := by
    have : (embR (lotD n (ordGo (oneT n) n))).map (·.2) = ((lotD n (ordGo (oneT n) n)).map (·.2)).map PyData.int := by
      unfold embR embG
      rw [List.map_map, List.map_map]
      rfl
    rw [this, asInts_map]
  have le : ((embR (lotD n (ordGo (oneT n) n))).length : Int) = lotsN n := by
    have : (embR (lotD n (ordGo (oneT n) n))).length = (lotD n (ordGo (oneT n) n)).length := embG_len _
    rw [this, p2]
  have sd : srt (dstI (sizV n)) = (tabZ n).map (·.1) := by
    rw [p5]
    exact (srt_eq (List.Perm.refl _) p6).symm
  have ss : ∀ g : G, sortSetIK g (.d (.list (zD (sizV n)))) = .ok (.d (.list (zD ((tabZ n).map (·.1))))) g := fun g => by
    rw [sortSetIK_of (ns := sizV n) rfl (by omega) (by rw [p5, List.length_map]; omega), sd]
  obtain ⟨KV, eK⟩ : ∃ KV, embR (lotD n (ordGo (oneT n) n)) = KV := ⟨_, rfl⟩
  obtain ⟨VS, eV⟩ : ∃ VS, (lotD n (ordGo (oneT n) n)).map (·.2) = VS := ⟨_, rfl⟩
  rw [eV] at sv ai
  rw [eK] at f1 ai le
  have fz : frzDK 2 ⟨[some (.o 0), some (.d (.int n)), some (.o 1), a3, a4, none, none, none, none, none, none, none, none], [.lst bx1, .dN KV]⟩ (some (some (.o 1))) = .ok (.m (.dL KV)) ⟨[some (.o 0), some (.d (.int n)), some (.m (.dL KV)), a3, a4, none, none, none, none, none, none, none, none], [.lst bx1, .dead]⟩ := frzDK_N (j := 1) rfl
  obtain ⟨SV, eS⟩ : ∃ SV, sizV n = SV := ⟨_, rfl⟩
  rw [eS] at sv ss p8 p4
  obtain ⟨T, eT⟩ : ∃ T, tabZ n = T := ⟨_, rfl⟩
  rw [eT] at ss p8 p7 rs
  obtain ⟨W, eW⟩ : ∃ W, tabZ w = W := ⟨_, rfl⟩
  rw [eW] at w1 w2 rw' wk
  have shS : SeqAt.shaped (.list (zD SV)) = true := shaped_zL
  have st1 := lcGo_map (emb := fun (p : Int × Int) => PyData.int p.1) (t := ct_law_right_1) (c := cc_law_right_1) (f := cf_law_right_1) (sl := [some (.o 0), some (.d (.int n)), some (.m (.dL KV)), a3, a4, some (.d (.list (zD SV))), none, none, none, none, none, none, none]) (ws := [11]) (ce := [.lst bx1, .dead]) (fun p => pD p) (xs := T) (by omega) (fun p hp => by
    have cn : (((zD SV).countP fun z => PyData.eqv z (.int p.1) : Nat) : Int) = p.2 := by rw [count_zD]; exact p8 p hp
    simp! [lcSt, ct_law_right_1, cc_law_right_1, cf_law_right_1, pD, mtCount, datOf, shS, cn])
  have ez : T.map (fun p => PyData.int p.1) = zD (T.map (·.1)) := by unfold zD; rw [List.map_map]; rfl
  rw [ez] at st1
  have st1 : lcGo ct_law_right_1 cc_law_right_1 cf_law_right_1 [some (.o 0), some (.d (.int n)), some (.m (.dL KV)), a3, a4, some (.d (.list (zD SV))), none, none, none, none, none, none, none] [11] (zD (T.map (·.1))) [] [.lst bx1, .dead] = .ok (psD T) ⟨[some (.o 0), some (.d (.int n)), some (.m (.dL KV)), a3, a4, some (.d (.list (zD SV))), none, none, none, none, none, none, none], [.lst bx1, .dead]⟩ := st1
  -- told
  have q1 := fun (sl : List (Option R)) => call_newO rs ⟨sl, [.lst bx1, .dead]⟩
  have q2 := fun (sl : List (Option R)) => call_newO rs ⟨sl, [.lst bx1, .dead, .lst (psD T)]⟩
  have l2 := fun (sl : List (Option R)) => lst2 sl [Ct.lst bx1, .dead] (.lst (psD T)) (.lst (psD T))
  have l2 : ∀ sl : List (Option R), lstLK ⟨sl, [.lst bx1, .dead, .lst (psD T), .lst (psD T)]⟩ (asOs [.o 2, .o 3]) = .ok (.l [2, 3]) ⟨sl, [.lst bx1, .dead, .lst (psD T), .lst (psD T)]⟩ := l2
  have kT := okp T (by omega)
  have kW := okp W (by omega)
  have s1 := same_ok 4 _ (ok_two kT kT)
  have s2 := same_ok 4 _ (ok_up 3 _ kT)
  have s3 := same_ok 4 _ (ok_up 3 _ kW)
  have s4 := same_ok 4 (.list [.int (lotsN n), .int (lotsN n)]) rfl
  have cl := fun (sl : List (Option R)) => callL_of (f := fn_law_same 4) (x := .bool true) (ds := [.list [.list (psD T), .list (psD T)], .list [.list (psD T), .list (psD T)]]) s1 (loan2 sl [Ct.lst bx1, .dead] (psD T) (psD T) (.list [.list (psD T), .list (psD T)])) rfl
  have cl : ∀ sl : List (Option R), callL (fn_law_same 4) [.l [2, 3], .d (.list [.list (psD T), .list (psD T)])] ⟨sl, [.lst bx1, .dead, .lst (psD T), .lst (psD T)]⟩ = .ok (.d (.bool true)) ⟨sl, [.lst bx1, .dead, .lst (psD T), .lst (psD T)]⟩ := cl
  have lT : T.length < 100000 := by omega
  obtain ⟨CE, eCE⟩ : ∃ CE, [Ct.lst bx1, .dead, .lst (psD T ++ [.str "more"]), .lst (psD T)] = CE := ⟨_, rfl⟩
  -- seventeen counts
  have st2 := k23_counts (m := 17) (by omega) (s1 := some (.d (.int n))) (s2 := some (.m (.dL KV))) (s3 := a3) (s4 := a4) (s5 := some (.d (.list (zD SV)))) (s6 := some (.d (.list (psD T)))) (s7 := some (.l [2, 3])) (ce := [Ct.lst bx1, .dead, .lst (psD T ++ [.str "more"]), .lst (psD T)])
  have ro : rOk 17 = true := rOk_of (by decide) (by decide)
  have ro2 : rOk 2 = true := rOk_of (by decide) (by decide)
  have cu : cut (zD ((List.range 17).map lotsN)) none (some 2) = [.int 1, .int 1] := cutZ_to ((List.range 17).map lotsN) 2
  have sh2 : SeqAt.shaped (.list [.int 1, .int 1]) = true := by decide
  have ev2 : PyData.eqv (.list [.int 1, .int 1]) (.list [.int 1, .int 1]) = true := by rfl
  have aw := k23_some (w := w) (by omega)
  obtain ⟨Z, eZ⟩ : ∃ Z, zD ((List.range 17).map lotsN) = Z := ⟨_, rfl⟩
  obtain ⟨a9, f2⟩ := k23_loop (s1 := some (.d (.int n))) (s2 := some (.m (.dL KV))) (s3 := a3) (s4 := a4) (s5 := some (.d (.list (zD SV)))) (s6 := some (.d (.list (psD T)))) (s7 := some (.l [2, 3])) (s9 := none) (s10 := none) (s11 := none) (s12 := none) (ce := [Ct.lst bx1, .dead, .lst (psD T ++ [.str "more"]), .lst (psD T)])
  rw [eZ] at st2 cu aw f2
  have c2 := fun (sl : List (Option R)) => callB_of e2 (j := 0) (g := ⟨sl, [Ct.lst bx1, .dead, .lst (psD T ++ [.str "more"]), .lst (psD T)]⟩) false rfl
  have st3 := lcGo_map (emb := pD) (t := ct_law_right_3) (c := cc_law_right_3) (f := cf_law_right_3) (sl := [some (.o 0), some (.d (.int n)), some (.m (.dL KV)), a3, a4, some (.d (.list (zD SV))), some (.d (.list (psD W))), some (.l [2, 3]), some (.d (.list Z)), a9, some (.d (.int w)), none, none]) (ws := [11, 12]) (ce := [Ct.lst bx2, .dead, .lst (psD T ++ [.str "more"]), .lst (psD T)]) (fun p => PyData.int p.2) (xs := W) (by omega) (fun p _ => by
    simp! [lcSt, ct_law_right_3, cc_law_right_3, cf_law_right_3, pD])
  have e5 : W.map (fun p => PyData.int p.2) = zD (W.map (·.2)) := by unfold zD; rw [List.map_map]; rfl
  rw [e5] at st3
  have st3 : lcGo ct_law_right_3 cc_law_right_3 cf_law_right_3 [some (.o 0), some (.d (.int n)), some (.m (.dL KV)), a3, a4, some (.d (.list (zD SV))), some (.d (.list (psD W))), some (.l [2, 3]), some (.d (.list Z)), a9, some (.d (.int w)), none, none] [11, 12] (psD W) [] [Ct.lst bx2, .dead, .lst (psD T ++ [.str "more"]), .lst (psD T)] = .ok (zD (W.map (·.2))) ⟨[some (.o 0), some (.d (.int n)), some (.m (.dL KV)), a3, a4, some (.d (.list (zD SV))), some (.d (.list (psD W))), some (.l [2, 3]), some (.d (.list Z)), a9, some (.d (.int w)), none, none], [Ct.lst bx2, .dead, .lst (psD T ++ [.str "more"]), .lst (psD T)]⟩ := st3
  have wk1 := walks_ok hw
  refine ⟨bx2, ?_⟩
  have rp : ∀ x y : PyData, [[x], [y]].flatten = [x, y] := fun x y => rfl
  simp! [fn_law_right, b_law_right, c1, fDict0N_ap, rg2_ap, rg, call_of od, f1, fSortVa_ap, fFrzD_ap, fz, ai, sv, fSortSetI_ap, ss, st1, q1, q2, l2, call_of rc, frzDK_m, clLenN_ap, le, rp, call_of s4, cl, ixL0, lT, call_lst rs, call_of s2, ro, ro2, st2, cu, sh2, ev2, f2, c2, call_of wk, call_lst rw', call_of s3, st3, w2, aw]
noncomputable def ct_law_1 : FG := (tN 1)
noncomputable def cc_law_1 : FT := fYes
noncomputable def cf_law_1 : FE := (fCall fn_law_right false (fCons (fCall fn_law_box true (fCons (fVar 0) (fCons (fVar 1) fNil))) fNil))
noncomputable def b_law : FS :=
  (sRt (fCl clAll (fCons (fLc (iRg1 (fCons (fOp opAdd (fC (.int 1)) (fCl clMin (fCons (fC (.int 3)) (fCons (fCl clLen (fCons (fVar 0) fNil)) fNil)))) fNil)) ct_law_1 cc_law_1 cf_law_1 [1]) fNil)))
noncomputable def fn_law : Fn := mkFn 2 b_law
theorem law_true (ns : List Int) : fn_law [.s ns] [] = .ok (.dat (.bool true)) [] := law_all 3 (by decide) (fun _ h => right_ok h) ns
end DL
end
set_option Elab.async false
set_option linter.all false
set_option maxRecDepth 100000
set_option maxHeartbeats 4000000
set_option autoImplicit false
namespace LawP
open PySem PySem.Spec PyProof.Rows L2 DL
def topS (i : Nat) : Stmt := PySem.Challenge.pw_overlooks_k23_numbers_of_lots.main.body.getD i (.Pass ⟨0, 0, 0, 0⟩)
abbrev s_run_at : Stmt := topS 1
abbrev N_run_at : List Str := ["some", "index", "first", "last"]
theorem sc_run_at : FnScope N_run_at ["some", "index"] (defScope s_run_at) := ⟨rfl, rfl, rfl, by decide +kernel, rfl, by decide +kernel, by decide +kernel⟩
abbrev s_next_runs : Stmt := topS 2
abbrev N_next_runs : List Str := ["some", "index", "place", "first", "last", "later", "low", "high"]
theorem sc_next_runs : FnScope N_next_runs ["some", "index"] (defScope s_next_runs) := ⟨rfl, rfl, rfl, by decide +kernel, rfl, by decide +kernel, by decide +kernel⟩
abbrev s_count_lots : Stmt := topS 4
abbrev N_count_lots : List Str := ["many", "found", "people"]
theorem sc_count_lots : FnScope N_count_lots ["many"] (defScope s_count_lots) := ⟨rfl, rfl, rfl, by decide +kernel, rfl, by decide +kernel, by decide +kernel⟩
abbrev s_lot_sizes : Stmt := topS 5
abbrev N_lot_sizes : List Str := ["many", "kinds", "turn", "later", "some", "size", "ways", "first", "last", "key", "found"]
theorem sc_lot_sizes : FnScope N_lot_sizes ["many"] (defScope s_lot_sizes) := ⟨rfl, rfl, rfl, by decide +kernel, rfl, by decide +kernel, by decide +kernel⟩
abbrev s_single_runs : Stmt := topS 6
abbrev N_single_runs : List Str := ["many", "index"]
theorem sc_single_runs : FnScope N_single_runs ["many"] (defScope s_single_runs) := ⟨rfl, rfl, rfl, by decide +kernel, rfl, by decide +kernel, by decide +kernel⟩
abbrev s_law_cell_at : Stmt := topS 8
abbrev N_law_cell_at : List Str := ["_law_script", "_law_k"]
theorem sc_law_cell_at : FnScope N_law_cell_at ["_law_script", "_law_k"] (defScope s_law_cell_at) := ⟨rfl, rfl, rfl, by decide +kernel, rfl, by decide +kernel, by decide +kernel⟩
abbrev s_law_box : Stmt := topS 9
abbrev N_law_box : List Str := ["_law_script", "_law_k", "_law_core"]
theorem sc_law_box : FnScope N_law_box ["_law_script", "_law_k"] (defScope s_law_box) := ⟨rfl, rfl, rfl, by decide +kernel, rfl, by decide +kernel, by decide +kernel⟩
abbrev s_law_take : Stmt := topS 10
abbrev N_law_take : List Str := ["_law_box_here", "_law_below", "_law_found", "_law_once", "_law_twice"]
theorem sc_law_take : FnScope N_law_take ["_law_box_here", "_law_below"] (defScope s_law_take) := ⟨rfl, rfl, rfl, by decide +kernel, rfl, by decide +kernel, by decide +kernel⟩
abbrev s_law_same : Stmt := topS 11
abbrev N_law_same : List Str := ["_law_found", "_law_due", "_law_a", "_law_b"]
theorem sc_law_same : FnScope N_law_same ["_law_found", "_law_due"] (defScope s_law_same) := ⟨rfl, rfl, rfl, by decide +kernel, rfl, by decide +kernel, by decide +kernel⟩
abbrev s_law_marks : Stmt := topS 12
abbrev N_law_marks : List Str := ["_law_crowd", "_law_found", "_law_soul", "_law_rest", "_law_its"]
theorem sc_law_marks : FnScope N_law_marks ["_law_crowd"] (defScope s_law_marks) := ⟨rfl, rfl, rfl, by decide +kernel, rfl, by decide +kernel, by decide +kernel⟩
abbrev s_law_intervals : Stmt := topS 13
abbrev N_law_intervals : List Str := ["_law_joined", "_law_count", "_law_found", "_law_first", "_law_at"]
theorem sc_law_intervals : FnScope N_law_intervals ["_law_joined", "_law_count"] (defScope s_law_intervals) := ⟨rfl, rfl, rfl, by decide +kernel, rfl, by decide +kernel, by decide +kernel⟩
abbrev s_law_run_lists : Stmt := topS 14
abbrev N_law_run_lists : List Str := ["_law_crowd", "_law_joined", "_law_found", "_law_k", "_law_mark", "_law_low", "_law_high", "_law_before", "_law_after", "_law_width"]
theorem sc_law_run_lists : FnScope N_law_run_lists ["_law_crowd"] (defScope s_law_run_lists) := ⟨rfl, rfl, rfl, by decide +kernel, rfl, by decide +kernel, by decide +kernel⟩
abbrev s_law_runs : Stmt := topS 15
abbrev N_law_runs : List Str := ["_law_crowd", "_law_found", "_law_some", "_law_mark", "_law_span_so"]
theorem sc_law_runs : FnScope N_law_runs ["_law_crowd"] (defScope s_law_runs) := ⟨rfl, rfl, rfl, by decide +kernel, rfl, by decide +kernel, by decide +kernel⟩
abbrev s_law_orders : Stmt := topS 16
abbrev N_law_orders : List Str := ["_law_souls", "_law_found", "_law_turn", "_law_longer", "_law_some", "_law_soul"]
theorem sc_law_orders : FnScope N_law_orders ["_law_souls"] (defScope s_law_orders) := ⟨rfl, rfl, rfl, by decide +kernel, rfl, by decide +kernel, by decide +kernel⟩
abbrev s_law_widths : Stmt := topS 17
abbrev N_law_widths : List Str := ["_law_widths_here", "_law_at", "_law_low", "_law_high", "_law_united"]
theorem sc_law_widths : FnScope N_law_widths ["_law_widths_here", "_law_at"] (defScope s_law_widths) := ⟨rfl, rfl, rfl, by decide +kernel, rfl, by decide +kernel, by decide +kernel⟩
abbrev s_law_walked : Stmt := topS 18
abbrev N_law_walked : List Str := ["_law_count", "_law_layer", "_law_turn", "_law_later", "_law_widths_here", "_law_size", "_law_at", "_law_width", "_law_key_so", "_law_found"]
theorem sc_law_walked : FnScope N_law_walked ["_law_count"] (defScope s_law_walked) := ⟨rfl, rfl, rfl, by decide +kernel, rfl, by decide +kernel, by decide +kernel⟩
abbrev s_law_right : Stmt := topS 19
abbrev N_law_right : List Str := ["_law_box_here", "_law_count", "_law_lots", "_law_crowd", "_law_key_so", "_law_sizes", "_law_due", "_law_told", "_law_some", "_law_k", "_law_wide", "_law_size", "_law_lots_so"]
theorem sc_law_right : FnScope N_law_right ["_law_box_here"] (defScope s_law_right) := ⟨rfl, rfl, rfl, by decide +kernel, rfl, by decide +kernel, by decide +kernel⟩
abbrev s_law : Stmt := topS 20
abbrev N_law : List Str := ["_law_script", "_law_k"]
theorem sc_law : FnScope N_law ["_law_script"] (defScope s_law) := ⟨rfl, rfl, rfl, by decide +kernel, rfl, by decide +kernel, by decide +kernel⟩
structure Fs (K : PySem.W.Frag) (mg : Str → Option Value) where
  cl : Str → Addr
  f_run_at : Addr
  d_run_at : FuncData
  F_run_at : Fun K "run_at" "run_at" s_run_at f_run_at d_run_at
  m_run_at : mg "run_at" = some (.ref f_run_at)
  b_run_at : Binds K d_run_at ["some", "index"] []
  f_next_runs : Addr
  d_next_runs : FuncData
  F_next_runs : Fun K "next_runs" "next_runs" s_next_runs f_next_runs d_next_runs
  m_next_runs : mg "next_runs" = some (.ref f_next_runs)
  b_next_runs : Binds K d_next_runs ["some", "index"] []
  f_count_lots : Addr
  d_count_lots : FuncData
  F_count_lots : Fun K "count_lots" "count_lots" s_count_lots f_count_lots d_count_lots
  m_count_lots : mg "count_lots" = some (.ref f_count_lots)
  b_count_lots : Binds K d_count_lots ["many"] []
  f_lot_sizes : Addr
  d_lot_sizes : FuncData
  F_lot_sizes : Fun K "lot_sizes" "lot_sizes" s_lot_sizes f_lot_sizes d_lot_sizes
  m_lot_sizes : mg "lot_sizes" = some (.ref f_lot_sizes)
  b_lot_sizes : Binds K d_lot_sizes ["many"] []
  f_single_runs : Addr
  d_single_runs : FuncData
  F_single_runs : Fun K "single_runs" "single_runs" s_single_runs f_single_runs d_single_runs
  m_single_runs : mg "single_runs" = some (.ref f_single_runs)
  b_single_runs : Binds K d_single_runs ["many"] []
  f_law_cell_at : Addr
  d_law_cell_at : FuncData
  F_law_cell_at : Fun K "_law_cell_at" "_law_cell_at" s_law_cell_at f_law_cell_at d_law_cell_at
  m_law_cell_at : mg "_law_cell_at" = some (.ref f_law_cell_at)
  b_law_cell_at : Binds K d_law_cell_at ["_law_script", "_law_k"] []
  f_law_box : Addr
  d_law_box : FuncData
  F_law_box : Fun K "_law_box" "_law_box" s_law_box f_law_box d_law_box
  m_law_box : mg "_law_box" = some (.ref f_law_box)
  b_law_box : Binds K d_law_box ["_law_script", "_law_k"] []
  f_law_take : Addr
  d_law_take : FuncData
  F_law_take : Fun K "_law_take" "_law_take" s_law_take f_law_take d_law_take
  m_law_take : mg "_law_take" = some (.ref f_law_take)
  b_law_take : Binds K d_law_take ["_law_box_here", "_law_below"] []
  f_law_same : Addr
  d_law_same : FuncData
  F_law_same : Fun K "_law_same" "_law_same" s_law_same f_law_same d_law_same
  m_law_same : mg "_law_same" = some (.ref f_law_same)
  b_law_same : Binds K d_law_same ["_law_found", "_law_due"] []
  f_law_marks : Addr
  d_law_marks : FuncData
  F_law_marks : Fun K "_law_marks" "_law_marks" s_law_marks f_law_marks d_law_marks
  m_law_marks : mg "_law_marks" = some (.ref f_law_marks)
  b_law_marks : Binds K d_law_marks ["_law_crowd"] []
  f_law_intervals : Addr
  d_law_intervals : FuncData
  F_law_intervals : Fun K "_law_intervals" "_law_intervals" s_law_intervals f_law_intervals d_law_intervals
  m_law_intervals : mg "_law_intervals" = some (.ref f_law_intervals)
  b_law_intervals : Binds K d_law_intervals ["_law_joined", "_law_count"] []
  f_law_run_lists : Addr
  d_law_run_lists : FuncData
  F_law_run_lists : Fun K "_law_run_lists" "_law_run_lists" s_law_run_lists f_law_run_lists d_law_run_lists
  m_law_run_lists : mg "_law_run_lists" = some (.ref f_law_run_lists)
  b_law_run_lists : Binds K d_law_run_lists ["_law_crowd"] []
  f_law_runs : Addr
  d_law_runs : FuncData
  F_law_runs : Fun K "_law_runs" "_law_runs" s_law_runs f_law_runs d_law_runs
  m_law_runs : mg "_law_runs" = some (.ref f_law_runs)
  b_law_runs : Binds K d_law_runs ["_law_crowd"] []
  f_law_orders : Addr
  d_law_orders : FuncData
  F_law_orders : Fun K "_law_orders" "_law_orders" s_law_orders f_law_orders d_law_orders
  m_law_orders : mg "_law_orders" = some (.ref f_law_orders)
  b_law_orders : Binds K d_law_orders ["_law_souls"] []
  f_law_widths : Addr
  d_law_widths : FuncData
  F_law_widths : Fun K "_law_widths" "_law_widths" s_law_widths f_law_widths d_law_widths
  m_law_widths : mg "_law_widths" = some (.ref f_law_widths)
  b_law_widths : Binds K d_law_widths ["_law_widths_here", "_law_at"] []
  f_law_walked : Addr
  d_law_walked : FuncData
  F_law_walked : Fun K "_law_walked" "_law_walked" s_law_walked f_law_walked d_law_walked
  m_law_walked : mg "_law_walked" = some (.ref f_law_walked)
  b_law_walked : Binds K d_law_walked ["_law_count"] []
  f_law_right : Addr
  d_law_right : FuncData
  F_law_right : Fun K "_law_right" "_law_right" s_law_right f_law_right d_law_right
  m_law_right : mg "_law_right" = some (.ref f_law_right)
  b_law_right : Binds K d_law_right ["_law_box_here"] []
  f_law : Addr
  d_law : FuncData
  F_law : Fun K "law" "law" s_law f_law d_law
  m_law : mg "law" = some (.ref f_law)
  b_law : Binds K d_law ["_law_script"] []
  kb_lot_sizes_0 : KBinds K d_lot_sizes ["many"] ["many"] (gK [0]) (gK [0])
  kb_count_lots_0 : KBinds K d_count_lots ["many"] ["many"] (gK [0]) (gK [0])
  m_len : mg "len" = none
  m_abs : mg "abs" = none
  m_int : mg "int" = none
  m_max : mg "max" = none
  m_min : mg "min" = none
  m_list : mg "list" = none
  m_tuple : mg "tuple" = none
  m_all : mg "all" = none
  m_sum : mg "sum" = none
  m_sorted : mg "sorted" = none
  m_zip : mg "zip" = none
  m_range : mg "range" = none
  m_enumerate : mg "enumerate" = none
  m_isinstance : mg "isinstance" = none
  m_set : mg "set" = none
  m_str : mg "str" = none
  m_bool : mg "bool" = none
section
variable {P : Program} {w : World} {K : PySem.W.Frag} {mg : Str → Option Value} {base : Heap}
theorem ok_run_at (Y : Fs K mg) : FnG P w K mg base (L2.CX P w) 1 Y.f_run_at Y.d_run_at ["some", "index"] (spF K Y.cl 2 fn_run_at) := by
  refine fnFx (k := 0) Y.F_run_at sc_run_at (fun cdv A outer s H E ρ dx hcl hr tk => ?_)
  obtain ⟨rB, rO, rP, rC⟩ := ρ
  obtain rfl : rC = Y.cl := hcl
  exact ⟨_, (qss_one (qs_ret (q_ix hr.un1 (q_lc rfl sc_run_at.nd (qi_seq (q_var 0)) (blkOk_by (own := [("first", 2), ("last", 3)]) (N := N_run_at) (sc := defScope s_run_at) (by decide +kernel)) (fun _ _ _ _ _ => (qg_tupA (n := 2) rfl (qgs_cons (qg_name (ws := [2, 3]) 2 sc_run_at.nd (by decide) rfl (.inl rfl)) (qgs_cons (qg_name (ws := [2, 3]) 3 sc_run_at.nd (by decide) rfl (.inl rfl)) qgs_nil)))) (fun _ _ _ _ _ => (qts_one (qt_lele (q_var 2) (q_var 1) (q_var 3)))) (fun _ _ _ _ _ => (q_tup (qa_cons (q_var 2) (qa_cons (q_var 3) qa_nil))))) q_int))), rfl⟩
theorem ok_next_runs (Y : Fs K mg) : FnG P w K mg base (L2.CX P w) 2 Y.f_next_runs Y.d_next_runs ["some", "index"] (spF K Y.cl 2 fn_next_runs) := by
  refine fnFx (k := 1) Y.F_next_runs sc_next_runs (fun cdv A outer s H E ρ dx hcl hr tk => ?_)
  obtain ⟨rB, rO, rP, rC⟩ := ρ
  obtain rfl : rC = Y.cl := hcl
  have G_run_at := ok_run_at (P := P) (w := w) (base := base) Y
  exact ⟨_, (qss_cons (qs_set (i := 2) sc_next_runs.nd rfl (.inl rfl) (q_index hr.un65 (q_var 0) (qa_cons (q_call false tk G_run_at (hr.mono (by decide)) (by rfl) Y.m_run_at Y.F_run_at.kp Y.b_run_at (qa_cons (q_var 0) (qa_cons (q_var 1) qa_nil)) (nArgs_cons (nArgs_cons nArgs_nil))) qa_nil)))
      (qss_cons (qs_par (i := 3) (j := 4) rfl sc_next_runs.nd rfl rfl (by decide) rfl rfl (qa_cons (q_ix hr.un1 (q_ix hr.un1 (q_var 0) (q_max rfl (by rfl) Y.m_max (qa_cons q_int (qa_cons (q_sub (q_var 2) q_int) qa_nil)))) q_int) (qa_cons (q_sub (q_ix hr.un1 (q_ix hr.un1 (q_var 0) (q_min rfl (by rfl) Y.m_min (qa_cons (q_sub (q_len rfl (by rfl) Y.m_len (qa_cons (q_var 0) qa_nil)) q_int) (qa_cons (q_add (q_var 2) q_int) qa_nil)))) q_int) q_int) qa_nil)) (by rfl))
      (qss_cons (qs_setLc (j := 5) rfl sc_next_runs.nd rfl rfl (sw_true rfl rfl rfl (by decide +kernel)) (qi_seq (q_sl (q_var 0) (qo_some (q_add (q_var 2) q_int)) qo_none)) (blkOk_by (own := [("low", 6), ("high", 7)]) (N := N_next_runs) (sc := defScope s_next_runs) (by decide +kernel)) (fun _ _ _ _ _ => (qg_tupA (n := 2) rfl (qgs_cons (qg_name (ws := [6, 7]) 6 sc_next_runs.nd (by decide) rfl (.inl rfl)) (qgs_cons (qg_name (ws := [6, 7]) 7 sc_next_runs.nd (by decide) rfl (.inl rfl)) qgs_nil)))) (fun _ _ _ _ _ => qts_nil) (fun _ _ _ _ _ => (q_tup (qa_cons (q_sub (q_var 6) q_int) (qa_cons (q_sub (q_var 7) q_int) qa_nil)))))
      (qss_one (qs_ret (q_add (q_add (q_sl (q_var 0) qo_none (qo_some (q_max rfl (by rfl) Y.m_max (qa_cons q_int (qa_cons (q_sub (q_var 2) q_int) qa_nil))))) (q_if (qt_le (q_var 3) (q_var 4)) (q_lst (qa_cons (q_tup (qa_cons (q_var 3) (qa_cons (q_var 4) qa_nil))) qa_nil)) (q_lst qa_nil))) (q_var 5))))))), rfl⟩
theorem ok_count_lots (Y : Fs K mg) : FnG P w K mg base (L2.CX P w) 1 Y.f_count_lots Y.d_count_lots ["many"] (spF K Y.cl 1 fn_count_lots) := by
  refine fnFx (k := 0) Y.F_count_lots sc_count_lots (fun cdv A outer s H E ρ dx hcl hr tk => ?_)
  obtain ⟨rB, rO, rP, rC⟩ := ρ
  obtain rfl : rC = Y.cl := hcl
  exact ⟨_, (qss_cons (qs_set (i := 1) sc_count_lots.nd rfl (.inl rfl) (q_lstO (qa_cons q_int (qa_cons q_int qa_nil))))
      (qss_cons (qs_for PassesOwn.leaving rfl (qi_range2 (by rfl) Y.m_range (qa_cons q_int (qa_cons (q_add (q_var 0) q_int) qa_nil))) (qg_name (ws := [2]) 2 sc_count_lots.nd (by decide) rfl (.inl rfl)) (qss_one (qs_expr (q_append (q_var 1) (qa_cons (q_add (q_mul q_int (q_ix hr.un1 (q_var 1) (q_neg q_int))) (q_mul (q_sub (q_var 2) q_int) (q_ix hr.un1 (q_var 1) (q_neg q_int)))) qa_nil)))))
      (qss_one (qs_ret (q_ix hr.un1 (q_var 1) (q_var 0)))))), rfl⟩
theorem ok_single_runs (Y : Fs K mg) : FnG P w K mg base (L2.CX P w) 1 Y.f_single_runs Y.d_single_runs ["many"] (spF K Y.cl 1 fn_single_runs) := by
  refine fnFx (k := 0) Y.F_single_runs sc_single_runs (fun cdv A outer s H E ρ dx hcl hr tk => ?_)
  obtain ⟨rB, rO, rP, rC⟩ := ρ
  obtain rfl : rC = Y.cl := hcl
  exact ⟨_, (qss_one (qs_ret (q_lcO rfl sc_single_runs.nd (qi_range1 (by rfl) Y.m_range (qa_cons (q_var 0) qa_nil)) (blkOk_by (own := [("index", 1)]) (N := N_single_runs) (sc := defScope s_single_runs) (by decide +kernel)) (fun _ _ _ _ _ => (qg_name (ws := [1]) 1 sc_single_runs.nd (by decide) rfl (.inl rfl))) (fun _ _ _ _ _ => qts_nil) (fun _ _ _ _ _ => (q_tup (qa_cons (q_var 1) (qa_cons (q_var 1) qa_nil))))))), rfl⟩
theorem ok_lot_sizes (Y : Fs K mg) : FnG P w K mg base (L2.CX P w) 3 Y.f_lot_sizes Y.d_lot_sizes ["many"] (spF K Y.cl 1 fn_lot_sizes) := by
  refine fnFx (k := 2) Y.F_lot_sizes sc_lot_sizes (fun cdv A outer s H E ρ dx hcl hr tk => ?_)
  obtain ⟨rB, rO, rP, rC⟩ := ρ
  obtain rfl : rC = Y.cl := hcl
  have G_single_runs := ok_single_runs (P := P) (w := w) (base := base) Y
  have G_next_runs := ok_next_runs (P := P) (w := w) (base := base) Y
  exact ⟨_, (qss_cons (qs_set (i := 1) sc_lot_sizes.nd rfl (.inl rfl) (q_disp1N hr.un9 (q_tup (qa_cons (q_tuple rfl (by rfl) Y.m_tuple (qa_cons (q_call false tk G_single_runs (hr.mono (by decide)) (by rfl) Y.m_single_runs Y.F_single_runs.kp Y.b_single_runs (qa_cons (q_var 0) qa_nil) (nArgs_cons nArgs_nil)) qa_nil)) (qa_cons q_int qa_nil))) q_int))
      (qss_cons (qs_for PassesOwn.leaving rfl (qi_range1 (by rfl) Y.m_range (qa_cons (q_var 0) qa_nil)) (qg_name (ws := [2]) 2 sc_lot_sizes.nd (by decide) rfl (.inl rfl)) (qss_cons (qs_set (i := 3) sc_lot_sizes.nd rfl (.inl rfl) q_dict0N)
      (qss_cons (qs_for PassesOwn.leaving rfl (qi_itD (q_frzD 1)) (qg_tupA (n := 2) rfl (qgs_cons (qg_tupA (n := 2) rfl (qgs_cons (qg_name (ws := [6, 4, 5]) 4 sc_lot_sizes.nd (by decide) rfl (.inl rfl)) (qgs_cons (qg_name (ws := [6, 4, 5]) 5 sc_lot_sizes.nd (by decide) rfl (.inl rfl)) qgs_nil))) (qgs_cons (qg_name (ws := [6, 4, 5]) 6 sc_lot_sizes.nd (by decide) rfl (.inl rfl)) qgs_nil))) (qss_one (qs_for PassesOwn.leaving rfl (qi_seq (q_var 4)) (qg_tupA (n := 2) rfl (qgs_cons (qg_name (ws := [7, 8]) 7 sc_lot_sizes.nd (by decide) rfl (.inl rfl)) (qgs_cons (qg_name (ws := [7, 8]) 8 sc_lot_sizes.nd (by decide) rfl (.inl rfl)) qgs_nil))) (qss_cons (qs_set (i := 9) sc_lot_sizes.nd rfl (.inl rfl) (q_tup (qa_cons (q_tuple rfl (by rfl) Y.m_tuple (qa_cons (q_call false tk G_next_runs (hr.mono (by decide)) (by rfl) Y.m_next_runs Y.F_next_runs.kp Y.b_next_runs (qa_cons (q_list rfl (by rfl) Y.m_list (qa_cons (q_var 4) qa_nil)) (qa_cons (q_var 7) qa_nil)) (nArgs_cons (nArgs_cons nArgs_nil))) qa_nil)) (qa_cons (q_mul (q_var 5) (q_add (q_sub (q_var 8) (q_var 7)) q_int)) qa_nil))))
      (qss_one (qs_putN hr.un9 (q_var 3) (q_var 9) (q_add (q_getN hr.un9 (q_var 3) (q_var 9) q_int) (q_var 6))))))))
      (qss_one (qs_set (i := 1) sc_lot_sizes.nd rfl (.inl rfl) (q_var 3))))))
      (qss_cons (qs_set (i := 10) sc_lot_sizes.nd rfl (.inl rfl) q_dict0)
      (qss_cons (qs_for PassesOwn.leaving rfl (qi_itD (q_frzD 1)) (qg_tupA (n := 2) rfl (qgs_cons (qg_tupA (n := 2) rfl (qgs_cons (qg_name (ws := [6, 4, 5]) 4 sc_lot_sizes.nd (by decide) rfl (.inl rfl)) (qgs_cons (qg_name (ws := [6, 4, 5]) 5 sc_lot_sizes.nd (by decide) rfl (.inl rfl)) qgs_nil))) (qgs_cons (qg_name (ws := [6, 4, 5]) 6 sc_lot_sizes.nd (by decide) rfl (.inl rfl)) qgs_nil))) (qss_one (qs_putD hr.un1 (q_var 10) (q_var 5) (q_add (q_getK hr.un1 (q_var 10) (q_var 5) q_int) (q_var 6)))))
      (qss_one (qs_ret (q_sortItO rfl (by rfl) Y.m_sorted (q_frzD 10)))))))), rfl⟩
theorem ok_law_cell_at (Y : Fs K mg) : FnG P w K mg base (L2.CX P w) 1 Y.f_law_cell_at Y.d_law_cell_at ["_law_script", "_law_k"] (spF K Y.cl 2 fn_law_cell_at) := by
  refine fnFx (k := 0) Y.F_law_cell_at sc_law_cell_at (fun cdv A outer s H E ρ dx hcl hr tk => ?_)
  obtain ⟨rB, rO, rP, rC⟩ := ρ
  obtain rfl : rC = Y.cl := hcl
  exact ⟨_, (qss_cons (qs_if (qt_lt (q_var 1) (q_len rfl (by rfl) Y.m_len (qa_cons (q_var 0) qa_nil))) (qss_one (qs_ret (q_ix hr.un1 (q_var 0) (q_var 1)))) qss_nil)
      (qss_one (qs_ret q_int))), rfl⟩
theorem ok_law_box (Y : Fs K mg) : FnG P w K mg base (L2.CX P w) 2 Y.f_law_box Y.d_law_box ["_law_script", "_law_k"] (spF K Y.cl 2 fn_law_box) := by
  refine fnFx (k := 1) Y.F_law_box sc_law_box (fun cdv A outer s H E ρ dx hcl hr tk => ?_)
  obtain ⟨rB, rO, rP, rC⟩ := ρ
  obtain rfl : rC = Y.cl := hcl
  have G_law_cell_at := ok_law_cell_at (P := P) (w := w) (base := base) Y
  exact ⟨_, (qss_cons (qs_set (i := 2) sc_law_box.nd rfl (.inl rfl) (q_call false tk G_law_cell_at (hr.mono (by decide)) (by rfl) Y.m_law_cell_at Y.F_law_cell_at.kp Y.b_law_cell_at (qa_cons (q_var 0) (qa_cons (q_var 1) qa_nil)) (nArgs_cons (nArgs_cons nArgs_nil))))
      (qss_one (qs_ret (q_lstO (qa_cons (q_mul (q_abs rfl (by rfl) Y.m_abs (qa_cons (q_var 2) qa_nil)) (q_intB rfl (by rfl) Y.m_int (qa_cons (q_ge (q_abs rfl (by rfl) Y.m_abs (qa_cons (q_var 2) qa_nil)) (q_pow q_int q_int)) qa_nil))) (qa_cons (q_add (q_add (q_mod (q_var 2) q_int) (q_mul q_int (q_var 1))) q_int) (qa_cons q_int qa_nil))))))), rfl⟩
theorem ok_law_take (Y : Fs K mg) : ∀ n : Nat, FnG P w K mg base (L2.CX P w) (n + 0) Y.f_law_take Y.d_law_take ["_law_box_here", "_law_below"] (spF K Y.cl 2 (fn_law_take n))
  | 0 => ⟨fun vs H Q E h => h.elim fun B h => h.elim fun O h => h.elim fun ps h => h.elim fun bx h => h.elim fun rs h => h.1, fun A fr s H as us vs Q E c e b v h => (h.elim fun B h => h.elim fun O h => h.elim fun ps h => h.elim fun bx h => h.elim fun rs h => (h.2.2.2.1 rfl).elim)⟩
  | n + 1 => by
    have R := ok_law_take Y n
    have z : n + 1 + 0 = (n + 0) + 1 := by omega
    rw [z]
    refine fnFx (k := n + 0) Y.F_law_take sc_law_take (fun cdv A outer s H E ρ dx hcl hr tk => ?_)
    obtain ⟨rB, rO, rP, rC⟩ := ρ
    obtain rfl : rC = Y.cl := hcl
    have G_law_take := R
    exact ⟨_, (qss_cons (qs_if (qt_gt (q_ix hr.un1 (q_var 0) q_int) q_int) (qss_cons (qs_set (i := 2) sc_law_take.nd rfl (.inl rfl) (q_mod (q_ix hr.un1 (q_var 0) q_int) (q_var 1)))
      (qss_cons (qs_asg (q_div (q_ix hr.un1 (q_var 0) q_int) (q_var 1)) (qg_subL (ws := []) (q_var 0) q_int))
      (qss_one (qs_ret (q_var 2))))) qss_nil)
      (qss_cons (qs_if (qt_gt (q_var 1) (q_pow q_int q_int)) (qss_one (qs_ret (q_mod (q_add (q_call false tk G_law_take (hr.mono (by omega)) (by rfl) Y.m_law_take Y.F_law_take.kp Y.b_law_take (qa_cons (q_var 0) (qa_cons (q_pow q_int q_int) qa_nil)) (nArgs_cons (nArgs_cons nArgs_nil))) (q_mul (q_pow q_int q_int) (q_call false tk G_law_take (hr.mono (by omega)) (by rfl) Y.m_law_take Y.F_law_take.kp Y.b_law_take (qa_cons (q_var 0) (qa_cons (q_add (q_div (q_var 1) (q_pow q_int q_int)) q_int) qa_nil)) (nArgs_cons (nArgs_cons nArgs_nil))))) (q_var 1)))) qss_nil)
      (qss_cons (qs_asg (q_add (q_ix hr.un1 (q_var 0) q_int) q_int) (qg_subL (ws := []) (q_var 0) q_int))
      (qss_cons (qs_set (i := 3) sc_law_take.nd rfl (.inl rfl) (q_mod (q_mul (q_add (q_ix hr.un1 (q_var 0) q_int) (q_mul q_int (q_ix hr.un1 (q_var 0) q_int))) (q_add q_int (q_ix hr.un1 (q_var 0) q_int))) q_int))
      (qss_cons (qs_set (i := 4) sc_law_take.nd rfl (.inl rfl) (q_mod (q_mul (q_add (q_add (q_var 3) (q_ix hr.un1 (q_var 0) q_int)) (q_div (q_ix hr.un1 (q_var 0) q_int) q_int)) (q_add (q_mod (q_var 3) q_int) q_int)) q_int))
      (qss_one (qs_ret (q_mod (q_div (q_mod (q_add (q_mul (q_var 4) q_int) (q_var 3)) q_int) q_int) (q_var 1))))))))), rfl⟩
theorem ok_law_same (Y : Fs K mg) : ∀ n : Nat, FnG P w K mg base (L2.CX P w) (n + 0) Y.f_law_same Y.d_law_same ["_law_found", "_law_due"] (spF K Y.cl 2 (fn_law_same n))
  | 0 => ⟨fun vs H Q E h => h.elim fun B h => h.elim fun O h => h.elim fun ps h => h.elim fun bx h => h.elim fun rs h => h.1, fun A fr s H as us vs Q E c e b v h => (h.elim fun B h => h.elim fun O h => h.elim fun ps h => h.elim fun bx h => h.elim fun rs h => (h.2.2.2.1 rfl).elim)⟩
  | n + 1 => by
    have R := ok_law_same Y n
    have z : n + 1 + 0 = (n + 0) + 1 := by omega
    rw [z]
    refine fnFx (k := n + 0) Y.F_law_same sc_law_same (fun cdv A outer s H E ρ dx hcl hr tk => ?_)
    obtain ⟨rB, rO, rP, rC⟩ := ρ
    obtain rfl : rC = Y.cl := hcl
    have G_law_same := R
    exact ⟨_, (qss_cons (qs_if (qt_val (q_isi2 (T := "list") (U := "tuple") (by first | exact .inl rfl | exact .inr (.inl rfl) | exact .inr (.inr (.inl rfl)) | exact .inr (.inr (.inr (.inl rfl))) | exact .inr (.inr (.inr (.inr (.inl rfl)))) | exact .inr (.inr (.inr (.inr (.inr rfl))))) (by first | exact .inl rfl | exact .inr (.inl rfl) | exact .inr (.inr (.inl rfl)) | exact .inr (.inr (.inr (.inl rfl))) | exact .inr (.inr (.inr (.inr (.inl rfl)))) | exact .inr (.inr (.inr (.inr (.inr rfl))))) (by rfl) Y.m_isinstance (by rfl) Y.m_list (by decide +kernel) (by rfl) Y.m_tuple (by decide +kernel) (q_var 1))) (qss_cons (qs_if (qt_w (qw_or (qt_ne hr.units (q_isi (T := "list") (by first | exact .inl rfl | exact .inr (.inl rfl) | exact .inr (.inr (.inl rfl)) | exact .inr (.inr (.inr (.inl rfl))) | exact .inr (.inr (.inr (.inr (.inl rfl)))) | exact .inr (.inr (.inr (.inr (.inr rfl))))) (by rfl) Y.m_isinstance (by rfl) Y.m_list (by decide +kernel) (q_var 0)) (q_isi (T := "list") (by first | exact .inl rfl | exact .inr (.inl rfl) | exact .inr (.inr (.inl rfl)) | exact .inr (.inr (.inr (.inl rfl))) | exact .inr (.inr (.inr (.inr (.inl rfl)))) | exact .inr (.inr (.inr (.inr (.inr rfl))))) (by rfl) Y.m_isinstance (by rfl) Y.m_list (by decide +kernel) (q_var 1))) (qw_or1 (qt_ne hr.units (q_isi (T := "tuple") (by first | exact .inl rfl | exact .inr (.inl rfl) | exact .inr (.inr (.inl rfl)) | exact .inr (.inr (.inr (.inl rfl))) | exact .inr (.inr (.inr (.inr (.inl rfl)))) | exact .inr (.inr (.inr (.inr (.inr rfl))))) (by rfl) Y.m_isinstance (by rfl) Y.m_tuple (by decide +kernel) (q_var 0)) (q_isi (T := "tuple") (by first | exact .inl rfl | exact .inr (.inl rfl) | exact .inr (.inr (.inl rfl)) | exact .inr (.inr (.inr (.inl rfl))) | exact .inr (.inr (.inr (.inr (.inl rfl)))) | exact .inr (.inr (.inr (.inr (.inr rfl))))) (by rfl) Y.m_isinstance (by rfl) Y.m_tuple (by decide +kernel) (q_var 1)))))) (qss_one (qs_ret q_bool)) qss_nil)
      (qss_one (qs_ret (q_and (q_eq hr.units (q_len rfl (by rfl) Y.m_len (qa_cons (q_var 0) qa_nil)) (q_len rfl (by rfl) Y.m_len (qa_cons (q_var 1) qa_nil))) (q_one (q_all rfl (by rfl) Y.m_all (qa_cons (q_lc rfl sc_law_same.nd (qi_zipP2 (by rfl) Y.m_zip (qa_cons (q_var 0) (qa_cons (q_var 1) qa_nil))) (blkOk_by (own := [("_law_a", 2), ("_law_b", 3)]) (N := N_law_same) (sc := defScope s_law_same) (by decide +kernel)) (fun _ _ _ _ _ => (qg_tupA (n := 2) rfl (qgs_cons (qg_name (ws := [2, 3]) 2 sc_law_same.nd (by decide) rfl (.inl rfl)) (qgs_cons (qg_name (ws := [2, 3]) 3 sc_law_same.nd (by decide) rfl (.inl rfl)) qgs_nil)))) (fun _ _ _ _ _ => qts_nil) (fun _ _ _ _ _ => (q_call false takes_no G_law_same (hr.mono (by omega)) (by rfl) Y.m_law_same Y.F_law_same.kp Y.b_law_same (qa_cons (q_var 2) (qa_cons (q_var 3) qa_nil)) (nArgs_cons (nArgs_cons nArgs_nil))))) qa_nil))))))) qss_nil)
      (qss_cons (qs_if (qt_w (qw_or (qt_isN (q_var 1) q_none) (qw_or1 (qt_val (q_isi2 (T := "bool") (U := "str") (by first | exact .inl rfl | exact .inr (.inl rfl) | exact .inr (.inr (.inl rfl)) | exact .inr (.inr (.inr (.inl rfl))) | exact .inr (.inr (.inr (.inr (.inl rfl)))) | exact .inr (.inr (.inr (.inr (.inr rfl))))) (by first | exact .inl rfl | exact .inr (.inl rfl) | exact .inr (.inr (.inl rfl)) | exact .inr (.inr (.inr (.inl rfl))) | exact .inr (.inr (.inr (.inr (.inl rfl)))) | exact .inr (.inr (.inr (.inr (.inr rfl))))) (by rfl) Y.m_isinstance (by rfl) Y.m_bool (by decide +kernel) (by rfl) Y.m_str (by decide +kernel) (q_var 1)))))) (qss_one (qs_ret (q_and (q_eq hr.units (q_var 0) (q_var 1)) (q_and (q_eq hr.units (q_isi (T := "bool") (by first | exact .inl rfl | exact .inr (.inl rfl) | exact .inr (.inr (.inl rfl)) | exact .inr (.inr (.inr (.inl rfl))) | exact .inr (.inr (.inr (.inr (.inl rfl)))) | exact .inr (.inr (.inr (.inr (.inr rfl))))) (by rfl) Y.m_isinstance (by rfl) Y.m_bool (by decide +kernel) (q_var 0)) (q_isi (T := "bool") (by first | exact .inl rfl | exact .inr (.inl rfl) | exact .inr (.inr (.inl rfl)) | exact .inr (.inr (.inr (.inl rfl))) | exact .inr (.inr (.inr (.inr (.inl rfl)))) | exact .inr (.inr (.inr (.inr (.inr rfl))))) (by rfl) Y.m_isinstance (by rfl) Y.m_bool (by decide +kernel) (q_var 1))) (q_one (q_eq hr.units (q_isN (q_var 0) q_none) (q_isN (q_var 1) q_none))))))) qss_nil)
      (qss_one (qs_ret (q_and (q_isi (T := "int") (by first | exact .inl rfl | exact .inr (.inl rfl) | exact .inr (.inr (.inl rfl)) | exact .inr (.inr (.inr (.inl rfl))) | exact .inr (.inr (.inr (.inr (.inl rfl)))) | exact .inr (.inr (.inr (.inr (.inr rfl))))) (by rfl) Y.m_isinstance (by rfl) Y.m_int (by decide +kernel) (q_var 0)) (q_and (q_not (q_isi (T := "bool") (by first | exact .inl rfl | exact .inr (.inl rfl) | exact .inr (.inr (.inl rfl)) | exact .inr (.inr (.inr (.inl rfl))) | exact .inr (.inr (.inr (.inr (.inl rfl)))) | exact .inr (.inr (.inr (.inr (.inr rfl))))) (by rfl) Y.m_isinstance (by rfl) Y.m_bool (by decide +kernel) (q_var 0))) (q_one (q_eq hr.units (q_var 0) (q_var 1))))))))), rfl⟩
theorem ok_law_marks (Y : Fs K mg) : FnG P w K mg base (L2.CX P w) 1 Y.f_law_marks Y.d_law_marks ["_law_crowd"] (spF K Y.cl 1 fn_law_marks) := by
  refine fnFx (k := 0) Y.F_law_marks sc_law_marks (fun cdv A outer s H E ρ dx hcl hr tk => ?_)
  obtain ⟨rB, rO, rP, rC⟩ := ρ
  obtain rfl : rC = Y.cl := hcl
  exact ⟨_, (qss_cons (qs_set (i := 1) sc_law_marks.nd rfl (.inl rfl) (q_lstO qa_nil))
      (qss_cons (qs_for PassesOwn.leaving rfl (qi_seq (q_sorted rfl (by rfl) Y.m_sorted (qa_cons (q_var 0) qa_nil))) (qg_name (ws := [2]) 2 sc_law_marks.nd (by decide) rfl (.inr rfl)) (qss_cons (qs_setLc (j := 3) rfl sc_law_marks.nd rfl rfl (sw_true rfl rfl rfl (by decide +kernel)) (qi_seq (q_var 0)) (blkOk_by (own := [("_law_its", 4)]) (N := N_law_marks) (sc := defScope s_law_marks) (by decide +kernel)) (fun _ _ _ _ _ => (qg_name (ws := [4]) 4 sc_law_marks.nd (by decide) rfl (.inl rfl))) (fun _ _ _ _ _ => (qts_one (qt_ge (q_var 4) (q_var 2)))) (fun _ _ _ _ _ => (q_var 4)))
      (qss_one (qs_expr (q_append (q_var 1) (qa_cons (q_index hr.un65 (q_var 3) (qa_cons (q_var 2) qa_nil)) qa_nil))))))
      (qss_one (qs_ret (q_tuple rfl (by rfl) Y.m_tuple (qa_cons (q_var 1) qa_nil)))))), rfl⟩
theorem ok_law_intervals (Y : Fs K mg) : FnG P w K mg base (L2.CX P w) 1 Y.f_law_intervals Y.d_law_intervals ["_law_joined", "_law_count"] (spF K Y.cl 2 fn_law_intervals) := by
  refine fnFx (k := 0) Y.F_law_intervals sc_law_intervals (fun cdv A outer s H E ρ dx hcl hr tk => ?_)
  obtain ⟨rB, rO, rP, rC⟩ := ρ
  obtain rfl : rC = Y.cl := hcl
  exact ⟨_, (qss_cons (qs_par (i := 2) (j := 3) rfl sc_law_intervals.nd rfl rfl (by decide) rfl rfl (qa_cons (q_lstO qa_nil) (qa_cons q_int qa_nil)) (by rfl))
      (qss_cons (qs_for PassesOwn.leaving rfl (qi_range1 (by rfl) Y.m_range (qa_cons (q_var 1) qa_nil)) (qg_name (ws := [4]) 4 sc_law_intervals.nd (by decide) rfl (.inl rfl)) (qss_one (qs_if (qt_w (qw_or (qt_eq hr.units (q_var 4) (q_sub (q_var 1) q_int)) (qw_or1 (qt_not (qt_val (q_ix hr.un1 (q_var 0) (q_var 4))))))) (qss_cons (qs_expr (q_append (q_var 2) (qa_cons (q_tup (qa_cons (q_var 3) (qa_cons (q_var 4) qa_nil))) qa_nil)))
      (qss_one (qs_set (i := 3) sc_law_intervals.nd rfl (.inl rfl) (q_add (q_var 4) q_int)))) qss_nil)))
      (qss_one (qs_ret (q_var 2))))), rfl⟩
theorem ok_law_run_lists (Y : Fs K mg) : FnG P w K mg base (L2.CX P w) 2 Y.f_law_run_lists Y.d_law_run_lists ["_law_crowd"] (spF K Y.cl 1 fn_law_run_lists) := by
  refine fnFx (k := 1) Y.F_law_run_lists sc_law_run_lists (fun cdv A outer s H E ρ dx hcl hr tk => ?_)
  obtain ⟨rB, rO, rP, rC⟩ := ρ
  obtain rfl : rC = Y.cl := hcl
  have G_law_marks := ok_law_marks (P := P) (w := w) (base := base) Y
  have G_law_intervals := ok_law_intervals (P := P) (w := w) (base := base) Y
  exact ⟨_, (qss_cons (qs_par (i := 1) (j := 2) rfl sc_law_run_lists.nd rfl rfl (by decide) rfl rfl (qa_cons (q_rep (q_lst (qa_cons q_bool qa_nil)) (q_max rfl (by rfl) Y.m_max (qa_cons q_int (qa_cons (q_sub (q_len rfl (by rfl) Y.m_len (qa_cons (q_var 0) qa_nil)) q_int) qa_nil)))) (qa_cons (q_lstO qa_nil) qa_nil)) (by rfl))
      (qss_cons (qs_for PassesOwn.leaving rfl (qi_enum (by rfl) Y.m_enumerate (qa_cons (q_call false tk G_law_marks (hr.mono (by decide)) (by rfl) Y.m_law_marks Y.F_law_marks.kp Y.b_law_marks (qa_cons (q_var 0) qa_nil) (nArgs_cons nArgs_nil)) qa_nil)) (qg_tupA (n := 2) rfl (qgs_cons (qg_name (ws := [3, 4]) 3 sc_law_run_lists.nd (by decide) rfl (.inl rfl)) (qgs_cons (qg_name (ws := [3, 4]) 4 sc_law_run_lists.nd (by decide) rfl (.inl rfl)) qgs_nil))) (qss_cons (qs_expr (q_append (q_var 2) (qa_cons (q_call false tk G_law_intervals (hr.mono (by decide)) (by rfl) Y.m_law_intervals Y.F_law_intervals.kp Y.b_law_intervals (qa_cons (q_var 1) (qa_cons (q_sub (q_len rfl (by rfl) Y.m_len (qa_cons (q_var 0) qa_nil)) (q_var 3)) qa_nil)) (nArgs_cons (nArgs_cons nArgs_nil))) qa_nil)))
      (qss_cons (qs_set (i := 5) sc_law_run_lists.nd rfl (.inl rfl) (q_var 4))
      (qss_cons (qs_while PassesOwn.leaving (qt_w (qw_and (qt_gt (q_var 5) q_int) (qw_and1 (qt_val (q_ix hr.un1 (q_var 1) (q_sub (q_var 5) q_int)))))) (qss_one (qs_set (i := 5) sc_law_run_lists.nd rfl (.inl rfl) (q_sub (q_var 5) q_int))))
      (qss_cons (qs_set (i := 6) sc_law_run_lists.nd rfl (.inl rfl) (q_var 4))
      (qss_cons (qs_while PassesOwn.leaving (qt_w (qw_and (qt_lt (q_var 6) (q_len rfl (by rfl) Y.m_len (qa_cons (q_var 1) qa_nil))) (qw_and1 (qt_val (q_ix hr.un1 (q_var 1) (q_var 6)))))) (qss_one (qs_set (i := 6) sc_law_run_lists.nd rfl (.inl rfl) (q_add (q_var 6) q_int))))
      (qss_cons (qs_par (i := 7) (j := 8) rfl sc_law_run_lists.nd rfl rfl (by decide) rfl rfl (qa_cons (q_sl (q_var 1) qo_none (qo_some (q_max rfl (by rfl) Y.m_max (qa_cons q_int (qa_cons (q_sub (q_var 5) q_int) qa_nil))))) (qa_cons (q_sl (q_var 1) (qo_some (q_add (q_var 6) q_int)) qo_none) qa_nil)) (by rfl))
      (qss_cons (qs_set (i := 9) sc_law_run_lists.nd rfl (.inl rfl) (q_sub (q_min rfl (by rfl) Y.m_min (qa_cons (q_var 6) (qa_cons (q_sub (q_sub (q_len rfl (by rfl) Y.m_len (qa_cons (q_var 0) qa_nil)) (q_var 3)) q_int) qa_nil))) (q_max rfl (by rfl) Y.m_max (qa_cons q_int (qa_cons (q_sub (q_var 5) q_int) qa_nil)))))
      (qss_one (qs_set (i := 1) sc_law_run_lists.nd rfl (.inl rfl) (q_add (q_add (q_var 7) (q_rep (q_lst (qa_cons q_bool qa_nil)) (q_max rfl (by rfl) Y.m_max (qa_cons q_int (qa_cons (q_var 9) qa_nil))))) (q_var 8))))))))))))
      (qss_one (qs_ret (q_var 2))))), rfl⟩
theorem ok_law_runs (Y : Fs K mg) : FnG P w K mg base (L2.CX P w) 3 Y.f_law_runs Y.d_law_runs ["_law_crowd"] (spF K Y.cl 1 fn_law_runs) := by
  refine fnFx (k := 2) Y.F_law_runs sc_law_runs (fun cdv A outer s H E ρ dx hcl hr tk => ?_)
  obtain ⟨rB, rO, rP, rC⟩ := ρ
  obtain rfl : rC = Y.cl := hcl
  have G_law_marks := ok_law_marks (P := P) (w := w) (base := base) Y
  have G_law_run_lists := ok_law_run_lists (P := P) (w := w) (base := base) Y
  exact ⟨_, (qss_cons (qs_set (i := 1) sc_law_runs.nd rfl (.inl rfl) (q_lstO qa_nil))
      (qss_cons (qs_for PassesOwn.leaving rfl (qi_zipP2 (by rfl) Y.m_zip (qa_cons (q_call false tk G_law_run_lists (hr.mono (by decide)) (by rfl) Y.m_law_run_lists Y.F_law_run_lists.kp Y.b_law_run_lists (qa_cons (q_var 0) qa_nil) (nArgs_cons nArgs_nil)) (qa_cons (q_call false tk G_law_marks (hr.mono (by decide)) (by rfl) Y.m_law_marks Y.F_law_marks.kp Y.b_law_marks (qa_cons (q_var 0) qa_nil) (nArgs_cons nArgs_nil)) qa_nil))) (qg_tupA (n := 2) rfl (qgs_cons (qg_name (ws := [2, 3]) 2 sc_law_runs.nd (by decide) rfl (.inl rfl)) (qgs_cons (qg_name (ws := [2, 3]) 3 sc_law_runs.nd (by decide) rfl (.inr rfl)) qgs_nil))) (qss_one (qs_expr (q_append (q_var 1) (qa_cons (q_ix hr.un1 (q_lc rfl sc_law_runs.nd (qi_seq (q_var 2)) (blkOk_by (own := [("_law_span_so", 4)]) (N := N_law_runs) (sc := defScope s_law_runs) (by decide +kernel)) (fun _ _ _ _ _ => (qg_name (ws := [4]) 4 sc_law_runs.nd (by decide) rfl (.inl rfl))) (fun _ _ _ _ _ => (qts_one (qt_lele (q_ix hr.un1 (q_var 4) q_int) (q_var 3) (q_ix hr.un1 (q_var 4) q_int)))) (fun _ _ _ _ _ => (q_var 4))) q_int) qa_nil)))))
      (qss_one (qs_ret (q_tuple rfl (by rfl) Y.m_tuple (qa_cons (q_var 1) qa_nil)))))), rfl⟩
theorem ok_law_orders (Y : Fs K mg) : FnG P w K mg base (L2.CX P w) 1 Y.f_law_orders Y.d_law_orders ["_law_souls"] (spF K Y.cl 1 fn_law_orders) := by
  refine fnFx (k := 0) Y.F_law_orders sc_law_orders (fun cdv A outer s H E ρ dx hcl hr tk => ?_)
  obtain ⟨rB, rO, rP, rC⟩ := ρ
  obtain rfl : rC = Y.cl := hcl
  exact ⟨_, (qss_cons (qs_set (i := 1) sc_law_orders.nd rfl (.inl rfl) (q_lst (qa_cons (q_tup qa_nil) qa_nil)))
      (qss_cons (qs_for PassesOwn.leaving rfl (qi_range1 (by rfl) Y.m_range (qa_cons (q_len rfl (by rfl) Y.m_len (qa_cons (q_var 0) qa_nil)) qa_nil)) (qg_name (ws := [2]) 2 sc_law_orders.nd (by decide) rfl (.inl rfl)) (qss_cons (qs_set (i := 3) sc_law_orders.nd rfl (.inl rfl) (q_lst qa_nil))
      (qss_cons (qs_for PassesOwn.leaving rfl (qi_seq (q_var 1)) (qg_name (ws := [4]) 4 sc_law_orders.nd (by decide) rfl (.inr rfl)) (qss_one (qs_set (i := 3) sc_law_orders.nd rfl (.inl rfl) (q_add (q_var 3) (q_lc rfl sc_law_orders.nd (qi_seq (q_var 0)) (blkOk_by (own := [("_law_soul", 5)]) (N := N_law_orders) (sc := defScope s_law_orders) (by decide +kernel)) (fun _ _ _ _ _ => (qg_name (ws := [5]) 5 sc_law_orders.nd (by decide) rfl (.inl rfl))) (fun _ _ _ _ _ => (qts_one (qt_notIn hr.un65 (q_var 5) (q_var 4)))) (fun _ _ _ _ _ => (q_add (q_var 4) (q_tup (qa_cons (q_var 5) qa_nil)))))))))
      (qss_one (qs_set (i := 1) sc_law_orders.nd rfl (.inl rfl) (q_var 3))))))
      (qss_one (qs_ret (q_var 1))))), rfl⟩
theorem ok_law_widths (Y : Fs K mg) : FnG P w K mg base (L2.CX P w) 1 Y.f_law_widths Y.d_law_widths ["_law_widths_here", "_law_at"] (spF K Y.cl 2 fn_law_widths) := by
  refine fnFx (k := 0) Y.F_law_widths sc_law_widths (fun cdv A outer s H E ρ dx hcl hr tk => ?_)
  obtain ⟨rB, rO, rP, rC⟩ := ρ
  obtain rfl : rC = Y.cl := hcl
  exact ⟨_, (qss_cons (qs_par (i := 2) (j := 3) rfl sc_law_widths.nd rfl rfl (by decide) rfl rfl (qa_cons (q_max rfl (by rfl) Y.m_max (qa_cons q_int (qa_cons (q_sub (q_var 1) q_int) qa_nil))) (qa_cons (q_min rfl (by rfl) Y.m_min (qa_cons (q_sub (q_len rfl (by rfl) Y.m_len (qa_cons (q_var 0) qa_nil)) q_int) (qa_cons (q_add (q_var 1) q_int) qa_nil))) qa_nil)) (by rfl))
      (qss_cons (qs_set (i := 4) sc_law_widths.nd rfl (.inl rfl) (q_sub (q_sumT rfl (by rfl) Y.m_sum (qa_cons (q_sl (q_var 0) (qo_some (q_var 2)) (qo_some (q_add (q_var 3) q_int))) qa_nil)) q_int))
      (qss_one (qs_ret (q_add (q_add (q_sl (q_var 0) qo_none (qo_some (q_var 2))) (q_repZ (q_tup (qa_cons (q_var 4) qa_nil)) (q_intB rfl (by rfl) Y.m_int (qa_cons (q_gt (q_var 4) q_int) qa_nil)))) (q_sl (q_var 0) (qo_some (q_add (q_var 3) q_int)) qo_none)))))), rfl⟩
theorem ok_law_walked (Y : Fs K mg) : FnG P w K mg base (L2.CX P w) 2 Y.f_law_walked Y.d_law_walked ["_law_count"] (spF K Y.cl 1 fn_law_walked) := by
  refine fnFx (k := 1) Y.F_law_walked sc_law_walked (fun cdv A outer s H E ρ dx hcl hr tk => ?_)
  obtain ⟨rB, rO, rP, rC⟩ := ρ
  obtain rfl : rC = Y.cl := hcl
  have G_law_widths := ok_law_widths (P := P) (w := w) (base := base) Y
  exact ⟨_, (qss_cons (qs_set (i := 1) sc_law_walked.nd rfl (.inl rfl) (q_disp1N hr.un9 (q_tup (qa_cons (q_repZ (q_tup (qa_cons q_int qa_nil)) (q_var 0)) (qa_cons q_int qa_nil))) q_int))
      (qss_cons (qs_for PassesOwn.leaving rfl (qi_range1 (by rfl) Y.m_range (qa_cons (q_var 0) qa_nil)) (qg_name (ws := [2]) 2 sc_law_walked.nd (by decide) rfl (.inl rfl)) (qss_cons (qs_set (i := 3) sc_law_walked.nd rfl (.inl rfl) q_dict0N)
      (qss_cons (qs_for PassesOwn.leaving rfl (qi_kyD (q_frzD 1)) (qg_tupA (n := 2) rfl (qgs_cons (qg_name (ws := [4, 5]) 4 sc_law_walked.nd (by decide) rfl (.inl rfl)) (qgs_cons (qg_name (ws := [4, 5]) 5 sc_law_walked.nd (by decide) rfl (.inl rfl)) qgs_nil))) (qss_one (qs_for PassesOwn.leaving rfl (qi_enum (by rfl) Y.m_enumerate (qa_cons (q_var 4) qa_nil)) (qg_tupA (n := 2) rfl (qgs_cons (qg_name (ws := [6, 7]) 6 sc_law_walked.nd (by decide) rfl (.inl rfl)) (qgs_cons (qg_name (ws := [6, 7]) 7 sc_law_walked.nd (by decide) rfl (.inl rfl)) qgs_nil))) (qss_cons (qs_set (i := 8) sc_law_walked.nd rfl (.inl rfl) (q_tup (qa_cons (q_call false tk G_law_widths (hr.mono (by decide)) (by rfl) Y.m_law_widths Y.F_law_widths.kp Y.b_law_widths (qa_cons (q_var 4) (qa_cons (q_var 6) qa_nil)) (nArgs_cons (nArgs_cons nArgs_nil))) (qa_cons (q_mul (q_var 5) (q_var 7)) qa_nil))))
      (qss_one (qs_putN hr.un9 (q_var 3) (q_var 8) (q_add (q_getN hr.un9 (q_var 3) (q_var 8) q_int) (q_ixN hr.un9 (q_var 1) (q_tup (qa_cons (q_var 4) (qa_cons (q_var 5) qa_nil))) (fun _ _ => rfl)))))))))
      (qss_one (qs_set (i := 1) sc_law_walked.nd rfl (.inl rfl) (q_var 3))))))
      (qss_cons (qs_set (i := 9) sc_law_walked.nd rfl (.inl rfl) q_dict0)
      (qss_cons (qs_for PassesOwn.leaving rfl (qi_kyD (q_frzD 1)) (qg_tupA (n := 2) rfl (qgs_cons (qg_name (ws := [4, 5]) 4 sc_law_walked.nd (by decide) rfl (.inl rfl)) (qgs_cons (qg_name (ws := [4, 5]) 5 sc_law_walked.nd (by decide) rfl (.inl rfl)) qgs_nil))) (qss_one (qs_putD hr.un1 (q_var 9) (q_var 5) (q_add (q_getK hr.un1 (q_var 9) (q_var 5) q_int) (q_ixN hr.un9 (q_var 1) (q_tup (qa_cons (q_var 4) (qa_cons (q_var 5) qa_nil))) (fun _ _ => rfl))))))
      (qss_one (qs_ret (q_sortIt rfl (by rfl) Y.m_sorted (q_frzD 9)))))))), rfl⟩
theorem ok_law_right (Y : Fs K mg) : FnG P w K mg base (L2.CX P w) 5 Y.f_law_right Y.d_law_right ["_law_box_here"] (spF K Y.cl 1 fn_law_right) := by
  refine fnFx (k := 4) Y.F_law_right sc_law_right (fun cdv A outer s H E ρ dx hcl hr tk => ?_)
  obtain ⟨rB, rO, rP, rC⟩ := ρ
  obtain rfl : rC = Y.cl := hcl
  have G_law_take := ok_law_take (P := P) (w := w) (base := base) Y 4
  have G_law_orders := ok_law_orders (P := P) (w := w) (base := base) Y
  have G_law_runs := ok_law_runs (P := P) (w := w) (base := base) Y
  have G_lot_sizes := ok_lot_sizes (P := P) (w := w) (base := base) Y
  have G_law_same := ok_law_same (P := P) (w := w) (base := base) Y 4
  have G_count_lots := ok_count_lots (P := P) (w := w) (base := base) Y
  have G_law_walked := ok_law_walked (P := P) (w := w) (base := base) Y
  exact ⟨_, (qss_cons (qs_set (i := 1) sc_law_right.nd rfl (.inl rfl) (q_call false tk G_law_take (hr.mono (by decide)) (by rfl) Y.m_law_take Y.F_law_take.kp Y.b_law_take (qa_cons (q_var 0) (qa_cons q_int qa_nil)) (nArgs_cons (nArgs_cons nArgs_nil))))
      (qss_cons (qs_set (i := 2) sc_law_right.nd rfl (.inl rfl) q_dict0N)
      (qss_cons (qs_for PassesOwn.leaving rfl (qi_seq (q_call false tk G_law_orders (hr.mono (by decide)) (by rfl) Y.m_law_orders Y.F_law_orders.kp Y.b_law_orders (qa_cons (q_lrg2 rfl (by rfl) Y.m_list (by rfl) Y.m_range q_int (q_add (q_var 1) q_int)) qa_nil) (nArgs_cons nArgs_nil))) (qg_name (ws := [3]) 3 sc_law_right.nd (by decide) rfl (.inl rfl)) (qss_cons (qs_set (i := 4) sc_law_right.nd rfl (.inl rfl) (q_call false tk G_law_runs (hr.mono (by decide)) (by rfl) Y.m_law_runs Y.F_law_runs.kp Y.b_law_runs (qa_cons (q_var 3) qa_nil) (nArgs_cons nArgs_nil)))
      (qss_one (qs_putN hr.un9 (q_var 2) (q_var 4) (q_add (q_getN hr.un9 (q_var 2) (q_var 4) q_int) q_int)))))
      (qss_cons (qs_set (i := 5) sc_law_right.nd rfl (.inr rfl) (q_sortVa rfl (by rfl) Y.m_sorted (q_frzD 2)))
      (qss_cons (qs_setLc (j := 6) rfl sc_law_right.nd rfl rfl (sw_true rfl rfl rfl (by decide +kernel)) (qi_seq (q_sortSetI rfl (by rfl) Y.m_sorted (by rfl) Y.m_set (q_var 5))) (blkOk_by (own := [("_law_size", 11)]) (N := N_law_right) (sc := defScope s_law_right) (by decide +kernel)) (fun _ _ _ _ _ => (qg_name (ws := [11]) 11 sc_law_right.nd (by decide) rfl (.inl rfl))) (fun _ _ _ _ _ => qts_nil) (fun _ _ _ _ _ => (q_tup (qa_cons (q_var 11) (qa_cons (q_count hr.un65 (q_var 5) (qa_cons (q_var 11) qa_nil)) qa_nil)))))
      (qss_cons (qs_set (i := 7) sc_law_right.nd rfl (.inl rfl) (q_lstL (qa_cons (q_call true tk G_lot_sizes (hr.mono (by decide)) (by rfl) Y.m_lot_sizes Y.F_lot_sizes.kp Y.b_lot_sizes (qa_cons (q_var 1) qa_nil) (nArgs_cons nArgs_nil)) (qa_cons (q_callK true [0] tk G_lot_sizes (hr.mono (by decide)) (by rfl) Y.m_lot_sizes Y.F_lot_sizes.kp Y.kb_lot_sizes_0 (qk_cons (q_var 1) qk_nil) (nArgs_cons nArgs_nil) (fun rs h => by match rs, h with | [a0], _ => rfl)) qa_nil))))
      (qss_cons (qs_if (qt_w (qw_or (qt_not (qt_val (q_call false tk G_law_same (hr.mono (by decide)) (by rfl) Y.m_law_same Y.F_law_same.kp Y.b_law_same (qa_cons (q_lst (qa_cons (q_call false tk G_count_lots (hr.mono (by decide)) (by rfl) Y.m_count_lots Y.F_count_lots.kp Y.b_count_lots (qa_cons (q_var 1) qa_nil) (nArgs_cons nArgs_nil)) (qa_cons (q_callK false [0] tk G_count_lots (hr.mono (by decide)) (by rfl) Y.m_count_lots Y.F_count_lots.kp Y.kb_count_lots_0 (qk_cons (q_var 1) qk_nil) (nArgs_cons nArgs_nil) (fun rs h => by match rs, h with | [a0], _ => rfl)) qa_nil))) (qa_cons (q_rep (q_lst (qa_cons (q_lenN (by rfl) Y.m_len (qa_cons (q_frzD 2) qa_nil)) qa_nil)) q_int) qa_nil)) (nArgs_cons (nArgs_cons nArgs_nil))))) (qw_or1 (qt_not (qt_val (q_callL tk G_law_same (hr.mono (by decide)) (by rfl) Y.m_law_same Y.F_law_same.kp Y.b_law_same (qa_cons (q_var 7) (qa_cons (q_lst (qa_cons (q_var 6) (qa_cons (q_var 6) qa_nil))) qa_nil)) (nArgs_cons (nArgs_cons nArgs_nil)))))))) (qss_one (qs_ret q_bool)) qss_nil)
      (qss_cons (qs_expr (q_append (q_ixL (q_var 7) q_int) (qa_cons q_str qa_nil)))
      (qss_cons (qs_if (qt_not (qt_val (q_call false tk G_law_same (hr.mono (by decide)) (by rfl) Y.m_law_same Y.F_law_same.kp Y.b_law_same (qa_cons (q_call false tk G_lot_sizes (hr.mono (by decide)) (by rfl) Y.m_lot_sizes Y.F_lot_sizes.kp Y.b_lot_sizes (qa_cons (q_var 1) qa_nil) (nArgs_cons nArgs_nil)) (qa_cons (q_var 6) qa_nil)) (nArgs_cons (nArgs_cons nArgs_nil))))) (qss_one (qs_ret q_bool)) qss_nil)
      (qss_cons (qs_setLc (j := 8) rfl sc_law_right.nd rfl rfl (sw_true rfl rfl rfl (by decide +kernel)) (qi_range1 (by rfl) Y.m_range (qa_cons q_int qa_nil)) (blkOk_by (own := [("_law_k", 9)]) (N := N_law_right) (sc := defScope s_law_right) (by decide +kernel)) (fun _ _ _ _ _ => (qg_name (ws := [9]) 9 sc_law_right.nd (by decide) rfl (.inl rfl))) (fun _ _ _ _ _ => qts_nil) (fun _ _ _ _ _ => (q_call false takes_no G_count_lots (hr.mono (by decide)) (by rfl) Y.m_count_lots Y.F_count_lots.kp Y.b_count_lots (qa_cons (q_var 9) qa_nil) (nArgs_cons nArgs_nil))))
      (qss_cons (qs_if (qt_ne hr.units (q_sl (q_var 8) qo_none (qo_some q_int)) (q_lst (qa_cons q_int (qa_cons q_int qa_nil)))) (qss_one (qs_ret q_bool)) qss_nil)
      (qss_cons (qs_for PassesOwn.leaving rfl (qi_range2 (by rfl) Y.m_range (qa_cons q_int (qa_cons q_int qa_nil))) (qg_name (ws := [9]) 9 sc_law_right.nd (by decide) rfl (.inl rfl)) (qss_one (qs_if (qt_ne hr.units (q_ix hr.un1 (q_var 8) (q_var 9)) (q_add (q_mul q_int (q_ix hr.un1 (q_var 8) (q_sub (q_var 9) q_int))) (q_mul (q_sub (q_var 9) q_int) (q_ix hr.un1 (q_var 8) (q_sub (q_var 9) q_int))))) (qss_one (qs_ret q_bool)) qss_nil)))
      (qss_cons (qs_set (i := 10) sc_law_right.nd rfl (.inl rfl) (q_call false tk G_law_take (hr.mono (by decide)) (by rfl) Y.m_law_take Y.F_law_take.kp Y.b_law_take (qa_cons (q_var 0) (qa_cons q_int qa_nil)) (nArgs_cons (nArgs_cons nArgs_nil))))
      (qss_cons (qs_set (i := 6) sc_law_right.nd rfl (.inl rfl) (q_call false tk G_law_walked (hr.mono (by decide)) (by rfl) Y.m_law_walked Y.F_law_walked.kp Y.b_law_walked (qa_cons (q_var 10) qa_nil) (nArgs_cons nArgs_nil)))
      (qss_one (qs_ret (q_and (q_call false tk G_law_same (hr.mono (by decide)) (by rfl) Y.m_law_same Y.F_law_same.kp Y.b_law_same (qa_cons (q_call false tk G_lot_sizes (hr.mono (by decide)) (by rfl) Y.m_lot_sizes Y.F_lot_sizes.kp Y.b_lot_sizes (qa_cons (q_var 10) qa_nil) (nArgs_cons nArgs_nil)) (qa_cons (q_var 6) qa_nil)) (nArgs_cons (nArgs_cons nArgs_nil))) (q_one (q_eq hr.units (q_sum rfl (by rfl) Y.m_sum (qa_cons (q_lc rfl sc_law_right.nd (qi_seq (q_var 6)) (blkOk_by (own := [("_law_size", 11), ("_law_lots_so", 12)]) (N := N_law_right) (sc := defScope s_law_right) (by decide +kernel)) (fun _ _ _ _ _ => (qg_tupA (n := 2) rfl (qgs_cons (qg_name (ws := [11, 12]) 11 sc_law_right.nd (by decide) rfl (.inl rfl)) (qgs_cons (qg_name (ws := [11, 12]) 12 sc_law_right.nd (by decide) rfl (.inl rfl)) qgs_nil)))) (fun _ _ _ _ _ => qts_nil) (fun _ _ _ _ _ => (q_var 12))) qa_nil)) (q_ix hr.un1 (q_var 8) (q_var 10))))))))))))))))))))), rfl⟩
theorem ok_law (Y : Fs K mg) : FnG P w K mg base (L2.CX P w) 6 Y.f_law Y.d_law ["_law_script"] (spF K Y.cl 1 fn_law) := by
  refine fnFx (k := 5) Y.F_law sc_law (fun cdv A outer s H E ρ dx hcl hr tk => ?_)
  obtain ⟨rB, rO, rP, rC⟩ := ρ
  obtain rfl : rC = Y.cl := hcl
  have G_law_right := ok_law_right (P := P) (w := w) (base := base) Y
  have G_law_box := ok_law_box (P := P) (w := w) (base := base) Y
  exact ⟨_, (qss_one (qs_ret (q_all rfl (by rfl) Y.m_all (qa_cons (q_lc rfl sc_law.nd (qi_range1 (by rfl) Y.m_range (qa_cons (q_add q_int (q_min rfl (by rfl) Y.m_min (qa_cons q_int (qa_cons (q_len rfl (by rfl) Y.m_len (qa_cons (q_var 0) qa_nil)) qa_nil)))) qa_nil)) (blkOk_by (own := [("_law_k", 1)]) (N := N_law) (sc := defScope s_law) (by decide +kernel)) (fun _ _ _ _ _ => (qg_name (ws := [1]) 1 sc_law.nd (by decide) rfl (.inl rfl))) (fun _ _ _ _ _ => qts_nil) (fun _ _ _ _ _ => (q_call false takes_no G_law_right (hr.mono (by decide)) (by rfl) Y.m_law_right Y.F_law_right.kp Y.b_law_right (qa_cons (q_call true takes_no G_law_box (hr.mono (by decide)) (by rfl) Y.m_law_box Y.F_law_box.kp Y.b_law_box (qa_cons (q_var 0) (qa_cons (q_var 1) qa_nil)) (nArgs_cons (nArgs_cons nArgs_nil))) qa_nil) (nArgs_cons nArgs_nil)))) qa_nil)))), rfl⟩
end
def e_run_at : He.DefD := ⟨("run_at", none), "run_at", "run_at", defArgs s_run_at, defBody s_run_at, defScope s_run_at, [], []⟩
def e_next_runs : He.DefD := ⟨("next_runs", none), "next_runs", "next_runs", defArgs s_next_runs, defBody s_next_runs, defScope s_next_runs, [], []⟩
def e_count_lots : He.DefD := ⟨("count_lots", none), "count_lots", "count_lots", defArgs s_count_lots, defBody s_count_lots, defScope s_count_lots, [], []⟩
def e_lot_sizes : He.DefD := ⟨("lot_sizes", none), "lot_sizes", "lot_sizes", defArgs s_lot_sizes, defBody s_lot_sizes, defScope s_lot_sizes, [], []⟩
def e_single_runs : He.DefD := ⟨("single_runs", none), "single_runs", "single_runs", defArgs s_single_runs, defBody s_single_runs, defScope s_single_runs, [], []⟩
def e_law_cell_at : He.DefD := ⟨("_law_cell_at", none), "_law_cell_at", "_law_cell_at", defArgs s_law_cell_at, defBody s_law_cell_at, defScope s_law_cell_at, [], []⟩
def e_law_box : He.DefD := ⟨("_law_box", none), "_law_box", "_law_box", defArgs s_law_box, defBody s_law_box, defScope s_law_box, [], []⟩
def e_law_take : He.DefD := ⟨("_law_take", none), "_law_take", "_law_take", defArgs s_law_take, defBody s_law_take, defScope s_law_take, [], []⟩
def e_law_same : He.DefD := ⟨("_law_same", none), "_law_same", "_law_same", defArgs s_law_same, defBody s_law_same, defScope s_law_same, [], []⟩
def e_law_marks : He.DefD := ⟨("_law_marks", none), "_law_marks", "_law_marks", defArgs s_law_marks, defBody s_law_marks, defScope s_law_marks, [], []⟩
def e_law_intervals : He.DefD := ⟨("_law_intervals", none), "_law_intervals", "_law_intervals", defArgs s_law_intervals, defBody s_law_intervals, defScope s_law_intervals, [], []⟩
def e_law_run_lists : He.DefD := ⟨("_law_run_lists", none), "_law_run_lists", "_law_run_lists", defArgs s_law_run_lists, defBody s_law_run_lists, defScope s_law_run_lists, [], []⟩
def e_law_runs : He.DefD := ⟨("_law_runs", none), "_law_runs", "_law_runs", defArgs s_law_runs, defBody s_law_runs, defScope s_law_runs, [], []⟩
def e_law_orders : He.DefD := ⟨("_law_orders", none), "_law_orders", "_law_orders", defArgs s_law_orders, defBody s_law_orders, defScope s_law_orders, [], []⟩
def e_law_widths : He.DefD := ⟨("_law_widths", none), "_law_widths", "_law_widths", defArgs s_law_widths, defBody s_law_widths, defScope s_law_widths, [], []⟩
def e_law_walked : He.DefD := ⟨("_law_walked", none), "_law_walked", "_law_walked", defArgs s_law_walked, defBody s_law_walked, defScope s_law_walked, [], []⟩
def e_law_right : He.DefD := ⟨("_law_right", none), "_law_right", "_law_right", defArgs s_law_right, defBody s_law_right, defScope s_law_right, [], []⟩
def e_law : He.DefD := ⟨("law", none), "law", "law", defArgs s_law, defBody s_law, defScope s_law, [], []⟩
def fnE : List He.DefD := [e_run_at, e_next_runs, e_count_lots, e_lot_sizes, e_single_runs, e_law_cell_at, e_law_box, e_law_take, e_law_same, e_law_marks, e_law_intervals, e_law_run_lists, e_law_runs, e_law_orders, e_law_widths, e_law_walked, e_law_right, e_law]
def fxE : List Fx := []
def faE0 : List He.Fa := [.glo "run_at", .glo "next_runs", .glo "count_lots", .glo "lot_sizes", .glo "single_runs", .glo "_law_cell_at", .glo "_law_box", .glo "_law_take", .glo "_law_same", .glo "_law_marks", .glo "_law_intervals", .glo "_law_run_lists", .glo "_law_runs", .glo "_law_orders", .glo "_law_widths", .glo "_law_walked", .glo "_law_right", .glo "law", .free "len", .free "abs"]
def faE1 : List He.Fa := [.free "int", .free "max", .free "min", .free "list", .free "tuple", .free "all", .free "sum", .free "sorted", .free "zip", .free "range", .free "enumerate", .free "isinstance", .free "set", .free "str", .free "bool"]
def faE : List He.Fa := faE0 ++ faE1
def namesE : List PySem.Str := ["run_at", "next_runs", "count_lots", "lot_sizes", "single_runs", "_law_cell_at", "_law_box", "_law_take", "_law_same", "_law_marks", "_law_intervals", "_law_run_lists", "_law_runs", "_law_orders", "_law_widths", "_law_walked", "_law_right"]
abbrev RE : PySem.W.OpenRow := PySem.W.OpenLaw.row PySem.Challenge.rw_overlooks_k23_numbers_of_lots
abbrev hkE : PySem.W.Hook := hookX 4 fxE faE fnE
def obE (s : PySem.W.SharedT) : He.AlD := obsXG 4 fxE faE fnE (HandSHeadRun.getT s)
theorem obE_eq (s : PySem.W.SharedT) : obE s = hkE.obs s.abs := obsXG_eq (HandSHeadRun.getT_eq s)
theorem runE (w : World) : HandSHeadRun.RunEq RE (PySem.W.view RE.prog [20]) hkE obE 4000 namesE w := by
  intro os
  kernel_rfl
theorem factsE {P : Program} {w : World} {K : PySem.W.Frag} {h : Heap} {mg : Str → Option Value} {f : Addr} (X : K.In h) (G : h.Ns mainGlobals mg) (hfa : mg ("law" : Str) = some (.ref f)) (cx : SaysX fxE faE fnE K) :
    ∃ (fd : FuncData) (cl : Str → Addr), (∀ (s : Shared) (v : Value), BindsTo s fd ⟨[v], []⟩ [("_law_script", v)]) ∧ ∀ base : Heap, K.In base → base.Ns mainGlobals mg → FnG P w K mg base (L2.CX P w) 6 f fd ["_law_script"] (spF K cl 1 fn_law) := by
  have c := cx.old
  obtain ⟨d_run_at, D_run_at⟩ := c.def_ 0 (d := e_run_at) rfl
  obtain ⟨d_next_runs, D_next_runs⟩ := c.def_ 1 (d := e_next_runs) rfl
  obtain ⟨d_count_lots, D_count_lots⟩ := c.def_ 2 (d := e_count_lots) rfl
  obtain ⟨d_lot_sizes, D_lot_sizes⟩ := c.def_ 3 (d := e_lot_sizes) rfl
  obtain ⟨d_single_runs, D_single_runs⟩ := c.def_ 4 (d := e_single_runs) rfl
  obtain ⟨d_law_cell_at, D_law_cell_at⟩ := c.def_ 5 (d := e_law_cell_at) rfl
  obtain ⟨d_law_box, D_law_box⟩ := c.def_ 6 (d := e_law_box) rfl
  obtain ⟨d_law_take, D_law_take⟩ := c.def_ 7 (d := e_law_take) rfl
  obtain ⟨d_law_same, D_law_same⟩ := c.def_ 8 (d := e_law_same) rfl
  obtain ⟨d_law_marks, D_law_marks⟩ := c.def_ 9 (d := e_law_marks) rfl
  obtain ⟨d_law_intervals, D_law_intervals⟩ := c.def_ 10 (d := e_law_intervals) rfl
  obtain ⟨d_law_run_lists, D_law_run_lists⟩ := c.def_ 11 (d := e_law_run_lists) rfl
  obtain ⟨d_law_runs, D_law_runs⟩ := c.def_ 12 (d := e_law_runs) rfl
  obtain ⟨d_law_orders, D_law_orders⟩ := c.def_ 13 (d := e_law_orders) rfl
  obtain ⟨d_law_widths, D_law_widths⟩ := c.def_ 14 (d := e_law_widths) rfl
  obtain ⟨d_law_walked, D_law_walked⟩ := c.def_ 15 (d := e_law_walked) rfl
  obtain ⟨d_law_right, D_law_right⟩ := c.def_ 16 (d := e_law_right) rfl
  obtain ⟨d_law, D_law⟩ := c.def_ 17 (d := e_law) rfl
  have e := hfa.symm.trans (He.glo_ok X G (c.fact 17 (f := .glo "law") rfl))
  cases e
  have b := FunD.bindsA (ps := ["_law_script"]) D_law fun _ _ _ _ _ _ us hl => match us, hl with | [_], _ => rfl
  have F_run_at := fun_of (st := s_run_at) D_run_at
  have b_run_at := F_run_at.binds (ps := ["some", "index"]) fun _ _ _ _ _ _ us hl => match us, hl with | [_, _], _ => rfl
  have F_next_runs := fun_of (st := s_next_runs) D_next_runs
  have b_next_runs := F_next_runs.binds (ps := ["some", "index"]) fun _ _ _ _ _ _ us hl => match us, hl with | [_, _], _ => rfl
  have F_count_lots := fun_of (st := s_count_lots) D_count_lots
  have b_count_lots := F_count_lots.binds (ps := ["many"]) fun _ _ _ _ _ _ us hl => match us, hl with | [_], _ => rfl
  have F_lot_sizes := fun_of (st := s_lot_sizes) D_lot_sizes
  have b_lot_sizes := F_lot_sizes.binds (ps := ["many"]) fun _ _ _ _ _ _ us hl => match us, hl with | [_], _ => rfl
  have F_single_runs := fun_of (st := s_single_runs) D_single_runs
  have b_single_runs := F_single_runs.binds (ps := ["many"]) fun _ _ _ _ _ _ us hl => match us, hl with | [_], _ => rfl
  have F_law_cell_at := fun_of (st := s_law_cell_at) D_law_cell_at
  have b_law_cell_at := F_law_cell_at.binds (ps := ["_law_script", "_law_k"]) fun _ _ _ _ _ _ us hl => match us, hl with | [_, _], _ => rfl
  have F_law_box := fun_of (st := s_law_box) D_law_box
  have b_law_box := F_law_box.binds (ps := ["_law_script", "_law_k"]) fun _ _ _ _ _ _ us hl => match us, hl with | [_, _], _ => rfl
  have F_law_take := fun_of (st := s_law_take) D_law_take
  have b_law_take := F_law_take.binds (ps := ["_law_box_here", "_law_below"]) fun _ _ _ _ _ _ us hl => match us, hl with | [_, _], _ => rfl
  have F_law_same := fun_of (st := s_law_same) D_law_same
  have b_law_same := F_law_same.binds (ps := ["_law_found", "_law_due"]) fun _ _ _ _ _ _ us hl => match us, hl with | [_, _], _ => rfl
  have F_law_marks := fun_of (st := s_law_marks) D_law_marks
  have b_law_marks := F_law_marks.binds (ps := ["_law_crowd"]) fun _ _ _ _ _ _ us hl => match us, hl with | [_], _ => rfl
  have F_law_intervals := fun_of (st := s_law_intervals) D_law_intervals
  have b_law_intervals := F_law_intervals.binds (ps := ["_law_joined", "_law_count"]) fun _ _ _ _ _ _ us hl => match us, hl with | [_, _], _ => rfl
  have F_law_run_lists := fun_of (st := s_law_run_lists) D_law_run_lists
  have b_law_run_lists := F_law_run_lists.binds (ps := ["_law_crowd"]) fun _ _ _ _ _ _ us hl => match us, hl with | [_], _ => rfl
  have F_law_runs := fun_of (st := s_law_runs) D_law_runs
  have b_law_runs := F_law_runs.binds (ps := ["_law_crowd"]) fun _ _ _ _ _ _ us hl => match us, hl with | [_], _ => rfl
  have F_law_orders := fun_of (st := s_law_orders) D_law_orders
  have b_law_orders := F_law_orders.binds (ps := ["_law_souls"]) fun _ _ _ _ _ _ us hl => match us, hl with | [_], _ => rfl
  have F_law_widths := fun_of (st := s_law_widths) D_law_widths
  have b_law_widths := F_law_widths.binds (ps := ["_law_widths_here", "_law_at"]) fun _ _ _ _ _ _ us hl => match us, hl with | [_, _], _ => rfl
  have F_law_walked := fun_of (st := s_law_walked) D_law_walked
  have b_law_walked := F_law_walked.binds (ps := ["_law_count"]) fun _ _ _ _ _ _ us hl => match us, hl with | [_], _ => rfl
  have F_law_right := fun_of (st := s_law_right) D_law_right
  have b_law_right := F_law_right.binds (ps := ["_law_box_here"]) fun _ _ _ _ _ _ us hl => match us, hl with | [_], _ => rfl
  have F_law := fun_of (st := s_law) D_law
  have b_law := F_law.binds (ps := ["_law_script"]) fun _ _ _ _ _ _ us hl => match us, hl with | [_], _ => rfl
  have kb_lot_sizes_0 := DL.Fun.kbindsN (ps := ["many"] ) (ks := ["many"]) [0] F_lot_sizes (by simp) (fun _ _ _ _ _ _ ws hl => by
    match ws, hl with
    | a0 :: _, _ => rfl
    | [], hl => exact absurd hl (by simp [permI])
    )
  have kb_count_lots_0 := DL.Fun.kbindsN (ps := ["many"] ) (ks := ["many"]) [0] F_count_lots (by simp) (fun _ _ _ _ _ _ ws hl => by
    match ws, hl with
    | a0 :: _, _ => rfl
    | [], hl => exact absurd hl (by simp [permI])
    )
  let Y : Fs K mg := { cl := He.ga K, kb_lot_sizes_0 := kb_lot_sizes_0, kb_count_lots_0 := kb_count_lots_0, f_run_at := _, d_run_at := d_run_at, F_run_at := F_run_at, m_run_at := He.glo_ok X G (c.fact 0 (f := .glo "run_at") rfl), b_run_at := b_run_at, f_next_runs := _, d_next_runs := d_next_runs, F_next_runs := F_next_runs, m_next_runs := He.glo_ok X G (c.fact 1 (f := .glo "next_runs") rfl), b_next_runs := b_next_runs, f_count_lots := _, d_count_lots := d_count_lots, F_count_lots := F_count_lots, m_count_lots := He.glo_ok X G (c.fact 2 (f := .glo "count_lots") rfl), b_count_lots := b_count_lots, f_lot_sizes := _, d_lot_sizes := d_lot_sizes, F_lot_sizes := F_lot_sizes, m_lot_sizes := He.glo_ok X G (c.fact 3 (f := .glo "lot_sizes") rfl), b_lot_sizes := b_lot_sizes, f_single_runs := _, d_single_runs := d_single_runs, F_single_runs := F_single_runs, m_single_runs := He.glo_ok X G (c.fact 4 (f := .glo "single_runs") rfl), b_single_runs := b_single_runs, f_law_cell_at := _, d_law_cell_at := d_law_cell_at, F_law_cell_at := F_law_cell_at, m_law_cell_at := He.glo_ok X G (c.fact 5 (f := .glo "_law_cell_at") rfl), b_law_cell_at := b_law_cell_at, f_law_box := _, d_law_box := d_law_box, F_law_box := F_law_box, m_law_box := He.glo_ok X G (c.fact 6 (f := .glo "_law_box") rfl), b_law_box := b_law_box, f_law_take := _, d_law_take := d_law_take, F_law_take := F_law_take, m_law_take := He.glo_ok X G (c.fact 7 (f := .glo "_law_take") rfl), b_law_take := b_law_take, f_law_same := _, d_law_same := d_law_same, F_law_same := F_law_same, m_law_same := He.glo_ok X G (c.fact 8 (f := .glo "_law_same") rfl), b_law_same := b_law_same, f_law_marks := _, d_law_marks := d_law_marks, F_law_marks := F_law_marks, m_law_marks := He.glo_ok X G (c.fact 9 (f := .glo "_law_marks") rfl), b_law_marks := b_law_marks, f_law_intervals := _, d_law_intervals := d_law_intervals, F_law_intervals := F_law_intervals, m_law_intervals := He.glo_ok X G (c.fact 10 (f := .glo "_law_intervals") rfl), b_law_intervals := b_law_intervals, f_law_run_lists := _, d_law_run_lists := d_law_run_lists, F_law_run_lists := F_law_run_lists, m_law_run_lists := He.glo_ok X G (c.fact 11 (f := .glo "_law_run_lists") rfl), b_law_run_lists := b_law_run_lists, f_law_runs := _, d_law_runs := d_law_runs, F_law_runs := F_law_runs, m_law_runs := He.glo_ok X G (c.fact 12 (f := .glo "_law_runs") rfl), b_law_runs := b_law_runs, f_law_orders := _, d_law_orders := d_law_orders, F_law_orders := F_law_orders, m_law_orders := He.glo_ok X G (c.fact 13 (f := .glo "_law_orders") rfl), b_law_orders := b_law_orders, f_law_widths := _, d_law_widths := d_law_widths, F_law_widths := F_law_widths, m_law_widths := He.glo_ok X G (c.fact 14 (f := .glo "_law_widths") rfl), b_law_widths := b_law_widths, f_law_walked := _, d_law_walked := d_law_walked, F_law_walked := F_law_walked, m_law_walked := He.glo_ok X G (c.fact 15 (f := .glo "_law_walked") rfl), b_law_walked := b_law_walked, f_law_right := _, d_law_right := d_law_right, F_law_right := F_law_right, m_law_right := He.glo_ok X G (c.fact 16 (f := .glo "_law_right") rfl), b_law_right := b_law_right, f_law := _, d_law := d_law, F_law := F_law, m_law := He.glo_ok X G (c.fact 17 (f := .glo "law") rfl), b_law := b_law, m_len := He.free_ok X G (c.fact 18 (f := .free "len") rfl), m_abs := He.free_ok X G (c.fact 19 (f := .free "abs") rfl), m_int := He.free_ok X G (c.fact 20 (f := .free "int") rfl), m_max := He.free_ok X G (c.fact 21 (f := .free "max") rfl), m_min := He.free_ok X G (c.fact 22 (f := .free "min") rfl), m_list := He.free_ok X G (c.fact 23 (f := .free "list") rfl), m_tuple := He.free_ok X G (c.fact 24 (f := .free "tuple") rfl), m_all := He.free_ok X G (c.fact 25 (f := .free "all") rfl), m_sum := He.free_ok X G (c.fact 26 (f := .free "sum") rfl), m_sorted := He.free_ok X G (c.fact 27 (f := .free "sorted") rfl), m_zip := He.free_ok X G (c.fact 28 (f := .free "zip") rfl), m_range := He.free_ok X G (c.fact 29 (f := .free "range") rfl), m_enumerate := He.free_ok X G (c.fact 30 (f := .free "enumerate") rfl), m_isinstance := He.free_ok X G (c.fact 31 (f := .free "isinstance") rfl), m_set := He.free_ok X G (c.fact 32 (f := .free "set") rfl), m_str := He.free_ok X G (c.fact 33 (f := .free "str") rfl), m_bool := He.free_ok X G (c.fact 34 (f := .free "bool") rfl) }
  exact ⟨d_law, Y.cl, fun s v => b s [v] rfl, fun base _ _ => ok_law Y⟩
end LawP
open PySem PySem.W PySem.Calls PyProof.Rows
theorem PySem.Challenge.cw_overlooks_k23_numbers_of_lots_holds : PySem.Challenge.rw_overlooks_k23_numbers_of_lots.Holds := by
  w_on; o_law
  refine HandSHeadRun.head_any (r := OpenLaw.row PySem.Challenge.rw_overlooks_k23_numbers_of_lots) (q := view (OpenLaw.row PySem.Challenge.rw_overlooks_k23_numbers_of_lots).prog [20]) (H := LawP.hkE) (ob := LawP.obE) (M := 4000) (loose := LawP.namesE) (d := HandSHeadRun.topDef (OpenLaw.row PySem.Challenge.rw_overlooks_k23_numbers_of_lots).prog 20) (kwd := []) LawP.obE_eq
    (by kernel_rfl) (fun s => by kernel_rfl) LawP.runE (by kernel_rfl) (by kernel_rfl) (by kernel_rfl) (by rfl) (by first | assumption | decide +kernel) (by decide +kernel) ⟨rfl, rfl, rfl, rfl, rfl, by decide +kernel⟩ ?hw ?hc
  case hw => w_witness2
  case hc =>
    refine DL.walkF (l := PySem.Challenge.rw_overlooks_k23_numbers_of_lots) (n := 63) (k := 6) (x := "_law_script") (fn := DL.fn_law) rfl (by decide) (by kernel_rfl) ⟨rfl, by decide, by decide⟩ (fun ns _ => DL.law_true ns) ?F
    intro w mg fa h Y G hmg0
    obtain ⟨K, KX, c⟩ := Y
    have hmg : mg ("law" : PySem.Str) = some (.ref fa) := by
      have e : (HandSHeadRun.topDef (OpenLaw.row PySem.Challenge.rw_overlooks_k23_numbers_of_lots).prog 20).name = ("law" : PySem.Str) := by kernel_rfl
      rw [← e]
      exact hmg0
    obtain ⟨fd, cl, hb, hF⟩ := LawP.factsE (P := (PySem.Challenge.rw_overlooks_k23_numbers_of_lots).prog) (w := w) KX G hmg c
    exact ⟨K, fd, cl, KX, hb, hF⟩
